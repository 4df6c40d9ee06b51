import PyProof.Rows.All
import Wide.All
import OpenK.AllK
import Wide.FinOn
import HandS.ForSpec
import HandS.ForMost
import HandS.Evl
import HandS.Strs
import HandS.IsInst
import HandS.Style
import HandS.Flow
import HandS.SortKw
import KE.KMinBuiltin
import HandS.SetFor
import HandS.Zip
import HandS.Conv
import HandS.Deep
import HandS.Comp
import HandS.Iter
import KE.IntBitsLaws
import HandS.Wide
import HandS.Steps
import HandS.Dict
import KE.KExcIs
import HandS.EndBits
import PySem.Challenge.RW_linehold_k05_refused
set_option Elab.async false
set_option linter.all false
set_option maxRecDepth 100000
set_option maxHeartbeats 4000000
/-! Lh: plain data under values; a reading evaluates to data; statements as steps between environments of data. -/
namespace Lh
open PySem L2
open Evl (Ex ex_l ex_t)

/-! ### data -/
inductive D where
  | non | bl (b : Bool) | int (i : Int) | str (s : Str)
  | lst (xs : List D) | tup (xs : List D)
  | dct
  | obj (C : Addr) (f : Str) (d : D)
  | set (ns : List Int)
  | scr (ns : List Int)
  | ty (n : String)
  | adr (a : Addr)

/-- how many different ints -/
def cnt : List Int → Nat
  | [] => 0
  | n :: ns => if n ∈ ns then cnt ns else cnt ns + 1

mutual
inductive Be (K : PySem.W.Frag) (w : World) (G : Hp) : V → D → Prop
  | non : Be K w G .non .non
  | bl (b : Bool) : Be K w G (.bl b) (.bl b)
  | int (i : Int) : Be K w G (.int i) (.int i)
  | str (x : Str) : Be K w G (.str x) (.str x)
  | lst {a : Addr} {xs : List V} {ds : List D} : G a = some (.lst xs) → BeAll K w G xs ds → Be K w G (.ref a) (.lst ds)
  | tup {a : Addr} {xs : List V} {ds : List D} : G a = some (.tup xs) → BeAll K w G xs ds → Be K w G (.ref a) (.tup ds)
  | dct {a : Addr} : G a = some (.dK []) → Be K w G (.ref a) .dct
  | obj {a C dx : Addr} {f : Str} {v : V} {d : D} : G a = some (.ins C dx [(f, v)]) → Be K w G v d → Be K w G (.ref a) (.obj C f d)
  | set {a : Addr} {ns : List Int} : G a = some (SetO w a (fun k => decide (k ∈ ns)) (cnt ns)) → Be K w G (.ref a) (.set ns)
  | scr {a : Addr} {ns : List Int} : SqL K G a (ns.map V.int) → Be K w G (.ref a) (.scr ns)
  | ty (n : String) : Be K w G (.ty n) (.ty n)
  | adr (a : Addr) : Be K w G (.ref a) (.adr a)
inductive BeAll (K : PySem.W.Frag) (w : World) (G : Hp) : List V → List D → Prop
  | nil : BeAll K w G [] []
  | cons {v : V} {vs : List V} {d : D} {ds : List D} : Be K w G v d → BeAll K w G vs ds → BeAll K w G (v :: vs) (d :: ds)
end

section
variable {K : PySem.W.Frag} {w : World} {G G' : Hp}
mutual
theorem Be.mono (e : Ex G G') : ∀ (d : D) (v : V), Be K w G v d → Be K w G' v d
  | .non, _, h => by cases h; exact .non
  | .bl b, _, h => by cases h; exact .bl b
  | .int i, _, h => by cases h; exact .int i
  | .str x, _, h => by cases h; exact .str x
  | .lst ds, _, h => by
    cases h with
    | lst hs ha => exact .lst (e _ _ hs) (BeAll.mono e ds _ ha)
  | .tup ds, _, h => by
    cases h with
    | tup hs ha => exact .tup (e _ _ hs) (BeAll.mono e ds _ ha)
  | .dct, _, h => by
    cases h with
    | dct h => exact .dct (e _ _ h)
  | .obj C f d, _, h => by
    cases h with
    | obj h1 h2 => exact .obj (e _ _ h1) (Be.mono e d _ h2)
  | .set ns, _, h => by
    cases h with
    | set h => exact .set (e _ _ h)
  | .scr ns, _, h => by
    cases h with
    | scr h => exact .scr (ex_l e h)
  | .ty n, _, h => by cases h; exact .ty n
  | .adr a, _, h => by cases h; exact .adr a
theorem BeAll.mono (e : Ex G G') : ∀ (ds : List D) (vs : List V), BeAll K w G vs ds → BeAll K w G' vs ds
  | [], _, h => by cases h; exact .nil
  | d :: ds, _, h => by
    cases h with
    | cons h1 h2 => exact .cons (Be.mono e d _ h1) (BeAll.mono e ds _ h2)
end
theorem Be.up {d : D} {v : V} (h : Be K w G v d) (e : Ex G G') : Be K w G' v d := h.mono e
theorem BeAll.up {ds : List D} {vs : List V} (h : BeAll K w G vs ds) (e : Ex G G') : BeAll K w G' vs ds := h.mono e
theorem BeAll.length : ∀ {ds : List D} {vs : List V}, BeAll K w G vs ds → vs.length = ds.length
  | [], _, h => by cases h; rfl
  | _ :: _, _, h => by
    cases h with
    | cons _ h2 => simp [BeAll.length h2]
theorem BeAll.get : ∀ {ds : List D} {vs : List V} {i : Nat} {v : V}, BeAll K w G vs ds → vs[i]? = some v → ∃ d, ds[i]? = some d ∧ Be K w G v d
  | [], _, i, v, h, e => by cases h; simp at e
  | d :: ds, _, 0, v, h, e => by
    cases h with
    | cons h1 h2 =>
      simp at e
      subst e
      exact ⟨d, rfl, h1⟩
  | d :: ds, _, i + 1, v, h, e => by
    cases h with
    | cons h1 h2 =>
      obtain ⟨d', h3, h4⟩ := BeAll.get (i := i) h2 (by simpa using e)
      exact ⟨d', by simpa using h3, h4⟩
theorem BeAll.getD : ∀ {ds : List D} {vs : List V} {i : Nat} {d : D}, BeAll K w G vs ds → ds[i]? = some d → ∃ v, vs[i]? = some v ∧ Be K w G v d
  | [], _, i, v, h, e => by simp at e
  | d :: ds, _, 0, v, h, e => by
    cases h with
    | cons h1 h2 =>
      simp at e
      subst e
      exact ⟨_, rfl, h1⟩
  | d :: ds, _, i + 1, v, h, e => by
    cases h with
    | cons h1 h2 =>
      obtain ⟨d', h3, h4⟩ := BeAll.getD (i := i) h2 (by simpa using e)
      exact ⟨d', by simpa using h3, h4⟩
theorem BeAll.append : ∀ {ds es : List D} {vs ws : List V}, BeAll K w G vs ds → BeAll K w G ws es → BeAll K w G (vs ++ ws) (ds ++ es)
  | [], _, _, _, h, h' => by cases h; exact h'
  | _ :: _, _, _, _, h, h' => by
    cases h with
    | cons h1 h2 => exact .cons h1 (BeAll.append h2 h')
theorem BeAll.drop : ∀ {ds : List D} {vs : List V} (n : Nat), BeAll K w G vs ds → BeAll K w G (vs.drop n) (ds.drop n)
  | _, _, 0, h => h
  | [], _, _ + 1, h => by cases h; exact .nil
  | _ :: _, _, n + 1, h => by
    cases h with
    | cons h1 h2 => exact BeAll.drop n h2
theorem BeAll.take : ∀ {ds : List D} {vs : List V} (n : Nat), BeAll K w G vs ds → BeAll K w G (vs.take n) (ds.take n)
  | _, _, 0, h => .nil
  | [], _, _ + 1, h => by cases h; exact .nil
  | _ :: _, _, n + 1, h => by
    cases h with
    | cons h1 h2 => exact .cons h1 (BeAll.take n h2)
theorem BeAll.reverse : ∀ {ds : List D} {vs : List V}, BeAll K w G vs ds → BeAll K w G vs.reverse ds.reverse
  | [], _, h => by cases h; exact .nil
  | _ :: _, _, h => by
    cases h with
    | cons h1 h2 =>
      rw [List.reverse_cons, List.reverse_cons]
      exact (BeAll.reverse h2).append (.cons h1 .nil)
theorem BeAll.set {d : D} {v : V} (hv : Be K w G v d) : ∀ {ds : List D} {vs : List V} (n : Nat), BeAll K w G vs ds → BeAll K w G (vs.set n v) (ds.set n d)
  | [], _, _, h => by cases h; exact .nil
  | _ :: _, _, 0, h => by
    cases h with
    | cons h1 h2 => exact .cons hv h2
  | _ :: _, _, n + 1, h => by
    cases h with
    | cons h1 h2 => exact .cons h1 (BeAll.set hv n h2)
/-- lists of ints -/
theorem BeAll.ints : ∀ {ns : List Int} {vs : List V}, BeAll K w G vs (ns.map D.int) → vs = ns.map V.int
  | [], _, h => by cases h; rfl
  | _ :: _, _, h => by
    cases h with
    | cons h1 h2 =>
      cases h1
      rw [BeAll.ints h2]
      rfl
theorem BeAll.ofInts : ∀ (ns : List Int), BeAll K w G (ns.map V.int) (ns.map D.int)
  | [] => .nil
  | n :: ns => .cons (.int n) (BeAll.ofInts ns)
theorem BeAll.bls : ∀ {ns : List Bool} {vs : List V}, BeAll K w G vs (ns.map D.bl) → vs = ns.map V.bl
  | [], _, h => by cases h; rfl
  | _ :: _, _, h => by
    cases h with
    | cons h1 h2 =>
      cases h1
      rw [BeAll.bls h2]
      rfl
end

/-! coders of typed data -/
abbrev Lc {α : Type} (c : α → D) (xs : List α) : D := .lst (xs.map c)
abbrev Li (ns : List Int) : D := Lc D.int ns
abbrev Ll (ls : List (List Int)) : D := Lc Li ls
abbrev Tp2 {α β : Type} (c : α → D) (e : β → D) (p : α × β) : D := .tup [c p.1, e p.2]
abbrev Tp3 {α β γ : Type} (c : α → D) (e : β → D) (f : γ → D) (p : α × β × γ) : D := .tup [c p.1, e p.2.1, f p.2.2]

/-! ### growth: G what is known, H what stands; both grow, what becomes known at a standing address was known -/
structure Grow (G G2 H H2 : Hp) : Prop where
  k : Ex G G2
  r : Ex H H2
  s : Ex G2 H2
  f : ∀ a, H a ≠ none → G a = none → G2 a = none
theorem Grow.refl {G H : Hp} (e : Ex G H) : Grow G G H H := ⟨Ex.refl G, Ex.refl H, e, fun _ _ h => h⟩
theorem ne_none {H : Hp} {a : Addr} {o : HO} (h : H a = some o) : H a ≠ none := by rw [h]; exact fun z => nomatch z
theorem Grow.trans {G G2 G3 H H2 H3 : Hp} (a : Grow G G2 H H2) (b : Grow G2 G3 H2 H3) : Grow G G3 H H3 := by
  refine ⟨a.k.trans b.k, a.r.trans b.r, b.s, fun x hx hg => ?_⟩
  refine b.f x ?_ (a.f x hx hg)
  cases e : H x with
  | none => exact absurd e hx
  | some o => exact ne_none (a.r x o e)
/-- a new object that is known -/
theorem Grow.new {G H : Hp} (e : Ex G H) {p : Addr} (hp : H p = none) (o : HO) : Grow G (upd G p o) H (upd H p o) := by
  have gp : G p = none := Evl.fresh_back e hp
  refine ⟨Ex.new gp, Ex.new hp, fun a u h => ?_, fun a ha hg => ?_⟩
  · by_cases q : a = p
    · subst q
      rw [upd_same] at h ⊢
      exact h
    · rw [upd_ne q] at h ⊢
      exact e a u h
  · have : a ≠ p := fun q => ha (by rw [q]; exact hp)
    rw [upd_ne this]
    exact hg
/-- a new object that isn't known -/
theorem Grow.hid {G H : Hp} (e : Ex G H) {p : Addr} (hp : H p = none) (o : HO) : Grow G G H (upd H p o) := by
  have gp : G p = none := Evl.fresh_back e hp
  refine ⟨Ex.refl G, Ex.new hp, fun a u h => ?_, fun a ha hg => hg⟩
  rw [upd_ne (ne_of_none h gp)]
  exact e a u h
/-- what stands becomes known -/
theorem Grow.learn {G G2 H H2 : Hp} (g : Grow G G2 H H2) {p : Addr} {o : HO} (hp : H p = none) (h2 : H2 p = some o) : Grow G (upd G2 p o) H H2 := by
  have gp : G2 p = none ∨ G2 p = some o := by
    cases e : G2 p with
    | none => exact .inl rfl
    | some u =>
      have := g.s p u e
      rw [h2] at this
      exact .inr this.symm
  have ex : Ex G2 (upd G2 p o) := fun a u h => by
    by_cases q : a = p
    · subst q
      rw [upd_same]
      rcases gp with z | z
      · rw [z] at h
        cases h
      · rw [z] at h
        exact h
    · rw [upd_ne q]
      exact h
  refine ⟨g.k.trans ex, g.r, fun a u h => ?_, fun a ha hg => ?_⟩
  · by_cases q : a = p
    · subst q
      rw [upd_same] at h
      rw [h2]
      exact h
    · rw [upd_ne q] at h
      exact g.s a u h
  · have : a ≠ p := fun q => ha (by rw [q]; exact hp)
    rw [upd_ne this]
    exact g.f a ha hg
/-- more was known -/
theorem Grow.wide {G G' G2 H H2 : Hp} (g : Grow G G2 H H2) (e : Ex G G') (e' : Ex G' H) : ∃ G3, Grow G' G3 H H2 ∧ Ex G2 G3 := by
  refine ⟨fun a => match G' a with | some o => some o | none => G2 a, ⟨fun a o h => ?_, g.r, fun a o h => ?_, fun a ha hg => ?_⟩, fun a o h => ?_⟩
  · show (match G' a with | some o => some o | none => G2 a) = _
    rw [h]
  · have h : (match G' a with | some o => some o | none => G2 a) = some o := h
    cases q : G' a with
    | some u =>
      rw [q] at h
      have h : some u = some o := h
      cases h
      exact g.r a _ (e' a _ q)
    | none =>
      rw [q] at h
      exact g.s a _ h
  · show (match G' a with | some o => some o | none => G2 a) = _
    rw [hg]
    refine g.f a ha ?_
    cases q : G a with
    | none => rfl
    | some o =>
      have := e a o q
      rw [hg] at this
      cases this
  · show (match G' a with | some o => some o | none => G2 a) = _
    cases q : G' a with
    | none => exact h
    | some u =>
      have h1 := g.r a u (e' a u q)
      have h2 := g.s a o h
      rw [h1] at h2
      show some u = some o
      exact h2

/-! ### environments -/
inductive En where
  | un | im (d : D) | ow (ds : List D)
structure Stt (K : PySem.W.Frag) (w : World) (Γ : List En) (σ : L2.St) (G H : Hp) : Prop where
  ex : Ex G H
  len : σ.length = Γ.length
  im : ∀ (i : Nat) (d : D), Γ[i]? = some (En.im d) → ∃ v : V, σ[i]? = some (some v) ∧ Be K w G v d
  ow : ∀ (i : Nat) (ds : List D), Γ[i]? = some (En.ow ds) → ∃ (p : Addr) (xs : List V), σ[i]? = some (some (V.ref p)) ∧ H p = some (HO.lst xs) ∧ G p = none ∧ BeAll K w G xs ds
  ap : ∀ (i j : Nat) (ds es : List D) (p : Addr), Γ[i]? = some (En.ow ds) → Γ[j]? = some (En.ow es) → σ[i]? = some (some (V.ref p)) → σ[j]? = some (some (V.ref p)) → i = j

section
variable {K : PySem.W.Frag} {w : World} {Γ : List En} {σ : L2.St} {G G2 H H2 : Hp}
theorem Stt.grow (S : Stt K w Γ σ G H) (g : Grow G G2 H H2) : Stt K w Γ σ G2 H2 := by
  refine ⟨g.s, S.len, fun i d e => ?_, fun i ds e => ?_, S.ap⟩
  · obtain ⟨v, h1, h2⟩ := S.im i d e
    exact ⟨v, h1, h2.up g.k⟩
  · obtain ⟨p, xs, h1, h2, h3, h4⟩ := S.ow i ds e
    exact ⟨p, xs, h1, g.r _ _ h2, g.f p (ne_none h2) h3, h4.up g.k⟩
theorem Stt.lt (S : Stt K w Γ σ G H) {i : Nat} {e : En} (h : Γ[i]? = some e) : i < σ.length := by
  rw [S.len]
  exact (List.getElem?_eq_some_iff.mp h).1
/-- a slot gets a value that is known -/
theorem Stt.put (S : Stt K w Γ σ G H) {i : Nat} {v : V} {d : D} (h : Be K w G v d) : Stt K w (Γ.set i (.im d)) (σ.set i (some v)) G H := by
  refine ⟨S.ex, by simpa using S.len, fun j d' e => ?_, fun j ds e => ?_, fun j k ds es p e1 e2 e3 e4 => ?_⟩
  · by_cases q : i = j
    · subst q
      have hl : i < Γ.length := by
        have := (List.getElem?_eq_some_iff.mp e).1
        simpa using this
      rw [List.getElem?_set_self hl] at e
      cases e
      exact ⟨v, List.getElem?_set_self (by rw [S.len]; exact hl), h⟩
    · rw [List.getElem?_set_ne q] at e
      rw [List.getElem?_set_ne q]
      exact S.im j d' e
  · have q : i ≠ j := fun q => by
      subst q
      by_cases hl : i < Γ.length
      · rw [List.getElem?_set_self hl] at e
        cases e
      · rw [List.getElem?_eq_none (by simpa using hl)] at e
        cases e
    rw [List.getElem?_set_ne q] at e
    rw [List.getElem?_set_ne q]
    exact S.ow j ds e
  · have q : ∀ k ds, (Γ.set i (.im d))[k]? = some (.ow ds) → i ≠ k ∧ Γ[k]? = some (.ow ds) := fun k ds e => by
      have q : i ≠ k := fun q => by
        subst q
        by_cases hl : i < Γ.length
        · rw [List.getElem?_set_self hl] at e
          cases e
        · rw [List.getElem?_eq_none (by simpa using hl)] at e
          cases e
      rw [List.getElem?_set_ne q] at e
      exact ⟨q, e⟩
    obtain ⟨n1, f1⟩ := q j ds e1
    obtain ⟨n2, f2⟩ := q k es e2
    rw [List.getElem?_set_ne n1] at e3
    rw [List.getElem?_set_ne n2] at e4
    exact S.ap j k ds es p f1 f2 e3 e4
/-- a slot is forgotten -/
theorem Stt.drop (S : Stt K w Γ σ G H) {i : Nat} {x : Option V} : Stt K w (Γ.set i .un) (σ.set i x) G H := by
  have q : ∀ k (e : En), e ≠ .un → (Γ.set i .un)[k]? = some e → i ≠ k ∧ Γ[k]? = some e := fun k e ne h => by
    have q : i ≠ k := fun q => by
      subst q
      by_cases hl : i < Γ.length
      · rw [List.getElem?_set_self hl] at h
        cases h
        exact ne rfl
      · rw [List.getElem?_eq_none (by simpa using hl)] at h
        cases h
    rw [List.getElem?_set_ne q] at h
    exact ⟨q, h⟩
  refine ⟨S.ex, by simpa using S.len, fun j d' e => ?_, fun j ds e => ?_, fun j k ds es p e1 e2 e3 e4 => ?_⟩
  · obtain ⟨n, e⟩ := q j (En.im d') (fun z => nomatch z) e
    rw [List.getElem?_set_ne n]
    exact S.im j d' e
  · obtain ⟨n, e⟩ := q j (En.ow ds) (fun z => nomatch z) e
    rw [List.getElem?_set_ne n]
    exact S.ow j ds e
  · obtain ⟨n1, f1⟩ := q j (En.ow ds) (fun z => nomatch z) e1
    obtain ⟨n2, f2⟩ := q k (En.ow es) (fun z => nomatch z) e2
    rw [List.getElem?_set_ne n1] at e3
    rw [List.getElem?_set_ne n2] at e4
    exact S.ap j k ds es p f1 f2 e3 e4
end
end Lh
set_option Elab.async false
set_option linter.all false
set_option maxRecDepth 100000
set_option maxHeartbeats 4000000
/-! Lh: expressions -/
namespace Lh
open PySem L2
open Evl (Ex ex_l ex_t sz_of sz_lt)

def EvD (K : PySem.W.Frag) (w : World) (te : TE) (Γ : List En) (d : D) : Prop :=
  ∀ σ G H, Stt K w Γ σ G H → ∀ Q : VK, (∀ v G2 H2, Grow G G2 H H2 → Be K w G2 v d → Q v H2) → te σ H Q
/-- a new list: it isn't known yet -/
def EvN (K : PySem.W.Frag) (w : World) (te : TE) (Γ : List En) (ds : List D) : Prop :=
  ∀ σ G H, Stt K w Γ σ G H → ∀ Q : VK, (∀ p xs G2 H2, Grow G G2 H H2 → H p = none → G2 p = none → H2 p = some (.lst xs) → BeAll K w G2 xs ds → Q (.ref p) H2) → te σ H Q
def EvT (K : PySem.W.Frag) (w : World) (tt : TT) (Γ : List En) (b : Bool) : Prop :=
  ∀ σ G H, Stt K w Γ σ G H → ∀ Q : Bool → Hp → Prop, (∀ G2 H2, Grow G G2 H H2 → Q b H2) → tt σ H Q
def EvA (K : PySem.W.Frag) (w : World) (ta : TA) (Γ : List En) (ds : List D) : Prop :=
  ∀ σ G H, Stt K w Γ σ G H → ∀ Q : List V → Hp → Prop, (∀ vs G2 H2, Grow G G2 H H2 → BeAll K w G2 vs ds → Q vs H2) → ta σ H Q
/-- an optional int (a slice's part) -/
def EvO (K : PySem.W.Frag) (w : World) (to : TO) (Γ : List En) (o : Option Int) : Prop :=
  ∀ σ G H, Stt K w Γ σ G H → ∀ Q : Option Int → Hp → Prop, (∀ G2 H2, Grow G G2 H H2 → Q o H2) → to σ H Q
/-- an operation on two values of such data -/
def RD (K : PySem.W.Frag) (w : World) (r : R2) (a b c : D) : Prop :=
  ∀ G H x y, Ex G H → Be K w G x a → Be K w G y b → ∀ Q : VK, (∀ v G2 H2, Grow G G2 H H2 → Be K w G2 v c → Q v H2) → r x y H Q
def RN (K : PySem.W.Frag) (w : World) (r : R2) (a b : D) (cs : List D) : Prop :=
  ∀ G H x y, Ex G H → Be K w G x a → Be K w G y b → ∀ Q : VK, (∀ p xs G2 H2, Grow G G2 H H2 → H p = none → G2 p = none → H2 p = some (.lst xs) → BeAll K w G2 xs cs → Q (.ref p) H2) → r x y H Q
/-- a call on values of such data -/
def CD (K : PySem.W.Frag) (w : World) (r : List V → Hp → VK → Prop) (ds : List D) (c : D) : Prop :=
  ∀ G H vs, Ex G H → BeAll K w G vs ds → ∀ Q : VK, (∀ v G2 H2, Grow G G2 H H2 → Be K w G2 v c → Q v H2) → r vs H Q
def CN (K : PySem.W.Frag) (w : World) (r : List V → Hp → VK → Prop) (ds : List D) (cs : List D) : Prop :=
  ∀ G H vs, Ex G H → BeAll K w G vs ds → ∀ Q : VK, (∀ p xs G2 H2, Grow G G2 H H2 → H p = none → G2 p = none → H2 p = some (.lst xs) → BeAll K w G2 xs cs → Q (.ref p) H2) → r vs H Q

section
variable {K : PySem.W.Frag} {w : World} {Γ : List En} {ta tb te tc : TE} {t u : TT} {d a b c : D} {ds cs : List D} {r r' : R2} {tl tr : TA}

theorem EvD.to {d' : D} (h : EvD K w te Γ d) (e : d = d') : EvD K w te Γ d' := e ▸ h
theorem EvN.to {cs : List D} (h : EvN K w te Γ ds) (e : ds = cs) : EvN K w te Γ cs := e ▸ h
theorem EvT.to {b b' : Bool} (h : EvT K w t Γ b) (e : b = b') : EvT K w t Γ b' := e ▸ h
theorem EvN.known (h : EvN K w te Γ ds) : EvD K w te Γ (.lst ds) := fun σ G H S Q q =>
  h σ G H S Q fun p xs G2 H2 g hp gp h2 hb => q _ _ _ (g.learn hp h2) (.lst upd_same (hb.up (Ex.new gp)))
theorem EvD.then (h : EvD K w te Γ d) {σ : L2.St} {G H : Hp} (S : Stt K w Γ σ G H) {Q : VK} (q : ∀ v G2 H2, Grow G G2 H H2 → Be K w G2 v d → Q v H2) : te σ H Q := h σ G H S Q q

/-! names, constants -/
theorem ev_var {i : Nat} (h : Γ[i]? = some (.im d)) : EvD K w (tVar i) Γ d := fun σ G H S Q q => by
  obtain ⟨v, e, hb⟩ := S.im i d h
  exact ⟨v, e, q v G H (Grow.refl S.ex) hb⟩
theorem ev_int {i : Int} : EvD K w (tC (.int i)) Γ (.int i) := fun σ G H S Q q => q _ G H (Grow.refl S.ex) (.int i)
theorem ev_bl {i : Bool} : EvD K w (tC (.bl i)) Γ (.bl i) := fun σ G H S Q q => q _ G H (Grow.refl S.ex) (.bl i)
theorem ev_non : EvD K w (tC .non) Γ .non := fun σ G H S Q q => q _ G H (Grow.refl S.ex) .non
theorem ev_str {i : Str} : EvD K w (tC (.str i)) Γ (.str i) := fun σ G H S Q q => q _ G H (Grow.refl S.ex) (.str i)

/-! operations -/
theorem ev_op (ha : EvD K w ta Γ a) (hb : EvD K w tb Γ b) (hr : RD K w r a b c) : EvD K w (tOp r ta tb) Γ c := fun σ G H S Q q =>
  ha σ G H S _ fun x G1 H1 g1 b1 => hb σ G1 H1 (S.grow g1) _ fun y G2 H2 g2 b2 => hr G2 H2 x y g2.s (b1.up g2.k) b2 Q fun v G3 H3 g3 b3 =>
    q v G3 H3 ((g1.trans g2).trans g3) b3
theorem en_op (ha : EvD K w ta Γ a) (hb : EvD K w tb Γ b) (hr : RN K w r a b cs) : EvN K w (tOp r ta tb) Γ cs := fun σ G H S Q q =>
  ha σ G H S _ fun x G1 H1 g1 b1 => hb σ G1 H1 (S.grow g1) _ fun y G2 H2 g2 b2 => hr G2 H2 x y g2.s (b1.up g2.k) b2 Q fun p xs G3 H3 g3 hp gp h3 b3 =>
    q p xs G3 H3 ((g1.trans g2).trans g3) (Evl.fresh_back (g1.r.trans g2.r) hp) gp h3 b3
theorem rd_orl {r1 r2 : R2} (h : RD K w r1 a b c) : RD K w (fun x y H Q => r1 x y H Q ∨ r2 x y H Q) a b c := fun G H x y e h1 h2 Q q => .inl (h G H x y e h1 h2 Q q)
theorem rd_orr {r1 r2 : R2} (h : RD K w r2 a b c) : RD K w (fun x y H Q => r1 x y H Q ∨ r2 x y H Q) a b c := fun G H x y e h1 h2 Q q => .inr (h G H x y e h1 h2 Q q)
theorem rd_I0 {g : Int → Int → V} {i j : Int} (hg : ∀ G, Be K w G (g i j) c) : RD K w (rI0 g) (.int i) (.int j) c := fun G H x y e h1 h2 Q q => by
  cases h1
  cases h2
  exact ⟨i, j, rfl, rfl, q _ G H (Grow.refl e) (hg G)⟩
theorem rd_I {C : Int → Int → Prop} {g : Int → Int → V} {i j : Int} (hc : C i j) (hg : ∀ G, Be K w G (g i j) c) : RD K w (rI C g) (.int i) (.int j) c := fun G H x y e h1 h2 Q q => by
  cases h1
  cases h2
  exact ⟨i, j, rfl, rfl, hc, q _ G H (Grow.refl e) (hg G)⟩
theorem rd_add {i j : Int} : RD K w (rI0 fun i j => .int (i + j)) (.int i) (.int j) (.int (i + j)) := rd_I0 fun _ => .int _
theorem rd_sub {i j : Int} : RD K w (rI0 fun i j => .int (i - j)) (.int i) (.int j) (.int (i - j)) := rd_I0 fun _ => .int _
theorem rd_lt {i j : Int} : RD K w (rI0 fun i j => .bl (decide (i < j))) (.int i) (.int j) (.bl (decide (i < j))) := rd_I0 fun _ => .bl _
theorem rd_le {i j : Int} : RD K w (rI0 fun i j => .bl (decide (i ≤ j))) (.int i) (.int j) (.bl (decide (i ≤ j))) := rd_I0 fun _ => .bl _
theorem rd_gt {i j : Int} : RD K w (rI0 fun i j => .bl (decide (j < i))) (.int i) (.int j) (.bl (decide (j < i))) := rd_I0 fun _ => .bl _
theorem rd_ge {i j : Int} : RD K w (rI0 fun i j => .bl (decide (j ≤ i))) (.int i) (.int j) (.bl (decide (j ≤ i))) := rd_I0 fun _ => .bl _
theorem rd_fdiv {i j : Int} (h : CDivN i j) : RD K w (rI CDivN fun i j => .int (i.fdiv j)) (.int i) (.int j) (.int (i.fdiv j)) := rd_I h fun _ => .int _
theorem rd_mod {i j : Int} (h : j ≠ 0) : RD K w (rI (fun _ j => j ≠ 0) fun i j => .int (i.fmod j)) (.int i) (.int j) (.int (i.fmod j)) := rd_I h fun _ => .int _
theorem rd_shl {i j : Int} (h : CPow i j) : RD K w (rI CPow fun i j => .int (i * 2 ^ j.toNat)) (.int i) (.int j) (.int (i * 2 ^ j.toNat)) := rd_I h fun _ => .int _
theorem rd_pow {i j : Int} (h : CPow i j) : RD K w (rI CPow fun i j => .int (i ^ j.toNat)) (.int i) (.int j) (.int (i ^ j.toNat)) := rd_I h fun _ => .int _
/-- list + list -/
theorem rn_cat {xs ys : List D} (hz : xs.length + ys.length ≤ 1000000) : RN K w rCat (.lst xs) (.lst ys) (xs ++ ys) := fun G H x y e h1 h2 Q q => by
  cases h1 with
  | lst a1 b1 =>
    cases h2 with
    | lst a2 b2 =>
      refine ⟨_, _, _, _, rfl, rfl, e _ _ a1, e _ _ a2, ?_, fun p hp => ?_⟩
      · rw [b1.length, b2.length]
        exact Nat.le_trans hz (by decide)
      · exact q p _ G _ (Grow.hid e hp _) hp (Evl.fresh_back e hp) upd_same (b1.append b2)
theorem BeAll.rep {G : Hp} {ds : List D} {vs : List V} (h : BeAll K w G vs ds) : ∀ n : Nat, BeAll K w G (List.replicate n vs).flatten (List.replicate n ds).flatten
  | 0 => .nil
  | n + 1 => by
    rw [List.replicate_succ, List.replicate_succ, List.flatten_cons, List.flatten_cons]
    exact h.append (BeAll.rep h n)
theorem rn_rep {xs : List D} {k : Int} (h1 : -(2 ^ 63) ≤ k) (h2 : k < 2 ^ 63) (hz : xs.length * k.toNat ≤ 1000000) : RN K w rRep (.lst xs) (.int k) (List.replicate k.toNat xs).flatten := fun G H x y e h1' h2' Q q => by
  cases h1' with
  | lst a1 b1 =>
    cases h2'
    refine ⟨_, k, _, rfl, rfl, e _ _ a1, h1, h2, ?_, fun p hp => ?_⟩
    · rw [b1.length]
      exact Nat.le_trans hz (by decide)
    · exact q p _ G _ (Grow.hid e hp _) hp (Evl.fresh_back e hp) upd_same (b1.rep _)
/-- the union of two rules -/
theorem or_rule {X : Cx} {f : Value → Value → Sem Value} {r1 r2 : R2} (h1 : OpR X f r1) (h2 : OpR X f r2) : OpR X f (fun x y H Q => r1 x y H Q ∨ r2 x y H Q) := by
  intro pins s σ H x y v u Q I rx ry h
  rcases h with h | h
  · exact h1 pins s σ H x y v u Q I rx ry h
  · exact h2 pins s σ H x y v u Q I rx ry h

/-! == as data -/
mutual
def D.py : D → PyData
  | .non => .none
  | .bl b => .bool b
  | .int i => .int i
  | .str s => .str s
  | .lst xs => .list (D.pys xs)
  | .tup xs => .tuple (D.pys xs)
  | .scr ns => .list (ns.map PyData.int)
  | _ => .none
def D.pys : List D → List PyData
  | [] => []
  | d :: ds => d.py :: D.pys ds
end
mutual
def D.plain : D → Bool
  | .non => true
  | .bl _ => true
  | .int _ => true
  | .str _ => true
  | .lst xs => D.plains xs
  | .tup xs => D.plains xs
  | .scr _ => true
  | _ => false
def D.plains : List D → Bool
  | [] => true
  | d :: ds => d.plain && D.plains ds
end
theorem dp_ints {H : Hp} : ∀ ns : List Int, DpAll K H (ns.map V.int) (ns.map PyData.int)
  | [] => .nil
  | n :: ns => .cons (.int n) (dp_ints ns)
mutual
theorem Be.dp {G H : Hp} (e : Ex G H) : ∀ (d : D) (v : V), d.plain = true → Be K w G v d → Dp K H v d.py
  | .non, _, _, h => by cases h; exact .non
  | .bl b, _, _, h => by cases h; exact .bl b
  | .int i, _, _, h => by cases h; exact .int i
  | .str x, _, _, h => by cases h; exact .str x
  | .lst ds, _, p, h => by
    cases h with
    | lst hs ha => exact .lst (SqL.of (e _ _ hs)) (BeAll.dp e ds _ p ha)
  | .tup ds, _, p, h => by
    cases h with
    | tup hs ha => exact .tup (SqT.of (e _ _ hs)) (BeAll.dp e ds _ p ha)
  | .dct, _, p, h => by cases p
  | .obj C f d, _, p, h => by cases p
  | .set ns, _, p, h => by cases p
  | .ty n, _, p, h => by cases p
  | .adr a, _, p, h => by cases p
  | .scr ns, _, p, h => by
    cases h with
    | scr h => exact .lst (ex_l e h) (dp_ints ns)
theorem BeAll.dp {G H : Hp} (e : Ex G H) : ∀ (ds : List D) (vs : List V), D.plains ds = true → BeAll K w G vs ds → DpAll K H vs (D.pys ds)
  | [], _, _, h => by cases h; exact .nil
  | d :: ds, _, p, h => by
    cases h with
    | cons h1 h2 =>
      have p : (d.plain && D.plains ds) = true := p
      rw [Bool.and_eq_true] at p
      exact .cons (Be.dp e d _ p.1 h1) (BeAll.dp e ds _ p.2 h2)
end
/-- data that == tells apart -/
def D.ok (d : D) : Bool := d.plain && SeqAt.shaped d.py
def deq (a b : D) : Bool := PyData.eqv a.py b.py
theorem rd_eq (ha : a.ok = true) (hb : b.ok = true) : RD K w (rEqD K) a b (.bl (deq a b)) := fun G H x y e h1 h2 Q q => by
  unfold D.ok at ha hb
  rw [Bool.and_eq_true] at ha hb
  exact ⟨a.py, b.py, Be.dp e a x ha.1 h1, Be.dp e b y hb.1 h2, ha.2, hb.2, q _ G H (Grow.refl e) (.bl _)⟩
theorem rd_ne (ha : a.ok = true) (hb : b.ok = true) : RD K w (rNeD K) a b (.bl (!deq a b)) := fun G H x y e h1 h2 Q q => by
  unfold D.ok at ha hb
  rw [Bool.and_eq_true] at ha hb
  exact ⟨a.py, b.py, Be.dp e a x ha.1 h1, Be.dp e b y hb.1 h2, ha.2, hb.2, q _ G H (Grow.refl e) (.bl _)⟩

/-! in, of ints -/
theorem inV_ints {i : Int} : ∀ ns : List Int, inV (.int i) (ns.map V.int) = decide (i ∈ ns)
  | [] => by simp [inV]
  | n :: ns => by
    have ih := inV_ints (i := i) ns
    unfold inV at ih ⊢
    rw [List.map_cons, List.any_cons, ih]
    show (n == i || decide (i ∈ ns)) = decide (i ∈ n :: ns)
    by_cases q : n = i
    · subst q
      simp
    · have q' : i ≠ n := fun z => q z.symm
      simp [q, q']
theorem flat_ints : ∀ ns : List Int, (ns.map V.int).all flatV = true
  | [] => rfl
  | n :: ns => by
    rw [List.map_cons, List.all_cons, flat_ints ns]
    rfl
theorem rd_in {i : Int} {ns : List Int} : RD K w (rIn K false) (.int i) (Li ns) (.bl (decide (i ∈ ns))) := fun G H x y e h1 h2 Q q => by
  cases h1
  cases h2 with
  | lst a1 b1 =>
    have := b1.ints
    subst this
    refine ⟨_, _, rfl, .inl (SqL.of (e _ _ a1)), rfl, flat_ints ns, ?_⟩
    rw [if_neg Bool.false_ne_true, inV_ints]
    exact q _ G H (Grow.refl e) (.bl _)
theorem rd_nin {i : Int} {ns : List Int} : RD K w (rIn K true) (.int i) (Li ns) (.bl (!decide (i ∈ ns))) := fun G H x y e h1 h2 Q q => by
  cases h1
  cases h2 with
  | lst a1 b1 =>
    have := b1.ints
    subst this
    refine ⟨_, _, rfl, .inl (SqL.of (e _ _ a1)), rfl, flat_ints ns, ?_⟩
    rw [if_pos rfl, inV_ints]
    exact q _ G H (Grow.refl e) (.bl _)
theorem rd_inT {i : Int} {ns : List Int} : RD K w (rIn K false) (.int i) (.tup (ns.map D.int)) (.bl (decide (i ∈ ns))) := fun G H x y e h1 h2 Q q => by
  cases h1
  cases h2 with
  | tup a1 b1 =>
    have := b1.ints
    subst this
    refine ⟨_, _, rfl, .inr (SqT.of (e _ _ a1)), rfl, flat_ints ns, ?_⟩
    rw [if_neg Bool.false_ne_true, inV_ints]
    exact q _ G H (Grow.refl e) (.bl _)
theorem rd_ninT {i : Int} {ns : List Int} : RD K w (rIn K true) (.int i) (.tup (ns.map D.int)) (.bl (!decide (i ∈ ns))) := fun G H x y e h1 h2 Q q => by
  cases h1
  cases h2 with
  | tup a1 b1 =>
    have := b1.ints
    subst this
    refine ⟨_, _, rfl, .inr (SqT.of (e _ _ a1)), rfl, flat_ints ns, ?_⟩
    rw [if_pos rfl, inV_ints]
    exact q _ G H (Grow.refl e) (.bl _)

/-! subscripts: any of list, tuple -/
theorem atI_be {G : Hp} {ds : List D} {xs : List V} {i : Int} (h : BeAll K w G xs ds) (e : atI ds i = some d) : ∃ v, atI xs i = some v ∧ Be K w G v d := by
  unfold atI at e ⊢
  rw [h.length]
  cases q : ixN ds.length i with
  | none =>
    rw [q] at e
    cases e
  | some j =>
    rw [q] at e
    exact h.getD e
def rIx2 (K : PySem.W.Frag) : R2 := fun x y H Q => rIxL K x y H Q ∨ rIxT K x y H Q
theorem ix_two {X : Cx} : IxR X (rIx2 X.K) := ix_list.or ix_tup
theorem rd_ixL {i : Int} (h : atI ds i = some d) : RD K w (rIx2 K) (.lst ds) (.int i) d := fun G H x y e h1 h2 Q q => by
  cases h2
  cases h1 with
  | lst a1 b1 =>
    obtain ⟨v, hv, hb⟩ := atI_be b1 h
    exact .inl ⟨_, _, _, v, rfl, rfl, SqL.of (e _ _ a1), hv, q v G H (Grow.refl e) hb⟩
theorem rd_ixT {i : Int} (h : atI ds i = some d) : RD K w (rIx2 K) (.tup ds) (.int i) d := fun G H x y e h1 h2 Q q => by
  cases h2
  cases h1 with
  | tup a1 b1 =>
    obtain ⟨v, hv, hb⟩ := atI_be b1 h
    exact .inr ⟨_, _, _, v, rfl, rfl, SqT.of (e _ _ a1), hv, q v G H (Grow.refl e) hb⟩

/-! tests -/
theorem et_test {b : Bool} (h : EvD K w te Γ (.bl b)) : EvT K w (tTest te) Γ b := fun σ G H S Q q => h σ G H S _ fun v G2 H2 g hb => by
  cases hb
  exact ⟨b, rfl, q G2 H2 g⟩
theorem et_B {b : Bool} (h : EvD K w te Γ (.bl b)) : EvT K w (tB te) Γ b := fun σ G H S Q q => h σ G H S _ fun v G2 H2 g hb => by
  cases hb
  exact ⟨b, rfl, q G2 H2 g⟩
theorem et_not {b : Bool} (h : EvT K w t Γ b) : EvT K w (tNot t) Γ (!b) := fun σ G H S Q q => h σ G H S _ fun G2 H2 g => q G2 H2 g
theorem et_and {x y : Bool} (h1 : EvT K w t Γ x) (h2 : x = true → EvT K w u Γ y) : EvT K w (tAnd t u) Γ (x && y) := fun σ G H S Q q => h1 σ G H S _ fun G2 H2 g => by
  cases x with
  | true =>
    show u σ H2 Q
    exact h2 rfl σ G2 H2 (S.grow g) Q fun G3 H3 g3 => q G3 H3 (g.trans g3)
  | false => exact q G2 H2 g
theorem et_or {x y : Bool} (h1 : EvT K w t Γ x) (h2 : x = false → EvT K w u Γ y) : EvT K w (tOr t u) Γ (x || y) := fun σ G H S Q q => h1 σ G H S _ fun G2 H2 g => by
  cases x with
  | false =>
    show u σ H2 Q
    exact h2 rfl σ G2 H2 (S.grow g) Q fun G3 H3 g3 => q G3 H3 (g.trans g3)
  | true => exact q G2 H2 g
theorem ev_andV {x y : Bool} (h1 : EvD K w ta Γ (.bl x)) (h2 : x = true → EvD K w tb Γ (.bl y)) : EvD K w (tAndV ta tb) Γ (.bl (x && y)) := fun σ G H S Q q => h1 σ G H S _ fun v G2 H2 g hb => by
  cases hb
  refine ⟨x, rfl, ?_⟩
  cases x with
  | true =>
    show tb σ H2 Q
    exact h2 rfl σ G2 H2 (S.grow g) Q fun v G3 H3 g3 b3 => q v G3 H3 (g.trans g3) b3
  | false => exact q _ G2 H2 g (.bl _)
theorem ev_orV {x y : Bool} (h1 : EvD K w ta Γ (.bl x)) (h2 : x = false → EvD K w tb Γ (.bl y)) : EvD K w (tOrV ta tb) Γ (.bl (x || y)) := fun σ G H S Q q => h1 σ G H S _ fun v G2 H2 g hb => by
  cases hb
  refine ⟨x, rfl, ?_⟩
  cases x with
  | false =>
    show tb σ H2 Q
    exact h2 rfl σ G2 H2 (S.grow g) Q fun v G3 H3 g3 b3 => q v G3 H3 (g.trans g3) b3
  | true => exact q _ G2 H2 g (.bl _)
theorem ev_notV {x : Bool} (h1 : EvD K w ta Γ (.bl x)) : EvD K w (tNotV ta) Γ (.bl (!x)) := fun σ G H S Q q => h1 σ G H S _ fun v G2 H2 g hb => by
  cases hb
  exact ⟨x, rfl, q _ G2 H2 g (.bl _)⟩
theorem ev_if {b : Bool} (h : EvT K w t Γ b) (h1 : b = true → EvD K w ta Γ d) (h2 : b = false → EvD K w tb Γ d) : EvD K w (tIf t ta tb) Γ d := fun σ G H S Q q => h σ G H S _ fun G2 H2 g => by
  cases b with
  | true =>
    show ta σ H2 Q
    exact h1 rfl σ G2 H2 (S.grow g) Q fun v G3 H3 g3 b3 => q v G3 H3 (g.trans g3) b3
  | false =>
    show tb σ H2 Q
    exact h2 rfl σ G2 H2 (S.grow g) Q fun v G3 H3 g3 b3 => q v G3 H3 (g.trans g3) b3
/-- a conditional whose two ways have values of their own -/
theorem ev_ifE {b : Bool} {d1 d2 : D} (h : EvT K w t Γ b) (h1 : b = true → EvD K w ta Γ d1) (h2 : b = false → EvD K w tb Γ d2) : EvD K w (tIf t ta tb) Γ (if b = true then d1 else d2) :=
  ev_if h (fun e => by rw [if_pos e]; exact h1 e) (fun e => by rw [if_neg (by rw [e]; exact Bool.false_ne_true)]; exact h2 e)
theorem et_chain {x y : Bool} (ha : EvD K w ta Γ a) (hb : EvD K w tb Γ b) (hr : RD K w r a b (.bl x)) (hc : x = true → EvD K w tc Γ c) (hr' : x = true → RD K w r' b c (.bl y)) : EvD K w (tChain r r' ta tb tc) Γ (.bl (x && y)) := fun σ G H S Q q =>
  ha σ G H S _ fun v G1 H1 g1 b1 => hb σ G1 H1 (S.grow g1) _ fun v2 G2 H2 g2 b2 => hr G2 H2 v v2 g2.s (b1.up g2.k) b2 _ fun z G3 H3 g3 b3 => by
    cases b3
    refine ⟨x, rfl, ?_⟩
    cases x with
    | true =>
      show tc σ H3 _
      refine hc rfl σ G3 H3 (S.grow ((g1.trans g2).trans g3)) _ fun v3 G4 H4 g4 b4 => ?_
      exact hr' rfl G4 H4 v2 v3 g4.s ((b2.up g3.k).up g4.k) b4 Q fun v G5 H5 g5 b5 => q v G5 H5 ((((g1.trans g2).trans g3).trans g4).trans g5) b5
    | false => exact q _ G3 H3 ((g1.trans g2).trans g3) (.bl _)

/-! arguments, displays -/
theorem ea_nil : EvA K w tNil Γ [] := fun σ G H S Q q => q [] G H (Grow.refl S.ex) .nil
theorem ea_cons (h : EvD K w te Γ d) (hr : EvA K w tr Γ ds) : EvA K w (tCons te tr) Γ (d :: ds) := fun σ G H S Q q =>
  h σ G H S _ fun v G1 H1 g1 b1 => hr σ G1 H1 (S.grow g1) _ fun vs G2 H2 g2 b2 => q _ G2 H2 (g1.trans g2) (.cons (b1.up g2.k) b2)
theorem ev_tup (h : EvA K w tr Γ ds) (hz : ds.length ≤ 1000000 := by simp) : EvD K w (tTup tr) Γ (.tup ds) := fun σ G H S Q q =>
  h σ G H S _ fun vs G1 H1 g1 b1 => ⟨by rw [b1.length]; exact Nat.le_trans hz (by decide), fun p hp => by
    have gp : G1 p = none := Evl.fresh_back g1.s hp
    exact q _ _ _ (g1.trans (Grow.new g1.s hp (.tup vs))) (.tup upd_same (b1.up (Ex.new gp)))⟩
theorem en_lst (h : EvA K w tr Γ ds) (hz : ds.length ≤ 1000000 := by simp) : EvN K w (tLst tr) Γ ds := fun σ G H S Q q =>
  h σ G H S _ fun vs G1 H1 g1 b1 => ⟨by rw [b1.length]; exact Nat.le_trans hz (by decide), fun p hp =>
    q _ _ _ _ (g1.trans (Grow.hid g1.s hp (.lst vs))) (Evl.fresh_back g1.r hp) (Evl.fresh_back g1.s hp) upd_same b1⟩

/-! calls of built-ins -/
theorem ev_cb {f : List V → Hp → VK → Prop} (h : EvA K w tr Γ ds) (hr : CD K w f ds c) : EvD K w (tCB f tr) Γ c := fun σ G H S Q q =>
  h σ G H S _ fun vs G1 H1 g1 b1 => hr G1 H1 vs g1.s b1 Q fun v G2 H2 g2 b2 => q v G2 H2 (g1.trans g2) b2
theorem en_cb {f : List V → Hp → VK → Prop} (h : EvA K w tr Γ ds) (hr : CN K w f ds cs) : EvN K w (tCB f tr) Γ cs := fun σ G H S Q q =>
  h σ G H S _ fun vs G1 H1 g1 b1 => hr G1 H1 vs g1.s b1 Q fun p xs G2 H2 g2 hp gp h2 b2 => q p xs G2 H2 (g1.trans g2) (Evl.fresh_back g1.r hp) gp h2 b2
theorem be1 {G : Hp} {vs : List V} (h : BeAll K w G vs [d]) : ∃ v, vs = [v] ∧ Be K w G v d := by
  cases h with
  | cons h1 h2 =>
    cases h2
    exact ⟨_, rfl, h1⟩
theorem be2 {G : Hp} {vs : List V} (h : BeAll K w G vs [a, b]) : ∃ x y, vs = [x, y] ∧ Be K w G x a ∧ Be K w G y b := by
  cases h with
  | cons h1 h2 =>
    obtain ⟨y, rfl, h3⟩ := be1 h2
    exact ⟨_, y, rfl, h1, h3⟩
/-- len -/
def rLenB (K : PySem.W.Frag) : List V → Hp → VK → Prop := fun xs H Q => ∃ p ys, xs = [.ref p] ∧ (SqL K H p ys ∨ SqT K H p ys) ∧ Q (.int ys.length) H
theorem call_lenB {X : Cx} : CallR X (.builtin "len") (rLenB X.K) := call_len_seq
theorem cd_lenL : CD K w (rLenB K) [.lst ds] (.int ds.length) := fun G H vs e h Q q => by
  obtain ⟨v, rfl, hb⟩ := be1 h
  cases hb with
  | lst a1 b1 =>
    refine ⟨_, _, rfl, .inl (SqL.of (e _ _ a1)), ?_⟩
    rw [b1.length]
    exact q _ G H (Grow.refl e) (.int _)
theorem cd_lenT : CD K w (rLenB K) [.tup ds] (.int ds.length) := fun G H vs e h Q q => by
  obtain ⟨v, rfl, hb⟩ := be1 h
  cases hb with
  | tup a1 b1 =>
    refine ⟨_, _, rfl, .inr (SqT.of (e _ _ a1)), ?_⟩
    rw [b1.length]
    exact q _ G H (Grow.refl e) (.int _)
theorem cd_lenS {ns : List Int} : CD K w (rLenB K) [.scr ns] (.int ns.length) := fun G H vs e h Q q => by
  obtain ⟨v, rfl, hb⟩ := be1 h
  cases hb with
  | scr a1 =>
    refine ⟨_, _, rfl, .inl (ex_l e a1), ?_⟩
    rw [List.length_map]
    exact q _ G H (Grow.refl e) (.int _)

/-! slices of lists -/
theorem eo_none : EvO K w tNoPart Γ none := fun σ G H S Q q => q G H (Grow.refl S.ex)
theorem eo_some {i : Int} (h : EvD K w te Γ (.int i)) : EvO K w (tPart te) Γ (some i) := fun σ G H S Q q => h σ G H S _ fun v G2 H2 g hb => by
  cases hb
  exact ⟨i, rfl, q G2 H2 g⟩
def cutD {α : Type} (xs : List α) (lo hi : Option Int) : List α := (xs.drop (HT.sIx xs.length 0 lo)).take (HT.sIx xs.length xs.length hi - HT.sIx xs.length 0 lo)
theorem BeAll.cut {G : Hp} {xs : List V} (h : BeAll K w G xs ds) (lo hi : Option Int) : BeAll K w G (cutV xs lo hi) (cutD ds lo hi) := by
  unfold cutV cutD
  rw [h.length]
  exact (h.drop _).take _
theorem cutV_map (ns : List Int) (lo hi : Option Int) : cutV (ns.map V.int) lo hi = (cutD ns lo hi).map V.int := by
  unfold cutV cutD
  rw [List.length_map, List.map_take, List.map_drop]
theorem cutD_map {α β : Type} (f : α → β) (xs : List α) (lo hi : Option Int) : cutD (xs.map f) lo hi = (cutD xs lo hi).map f := by
  unfold cutD
  rw [List.length_map, List.map_take, List.map_drop]
theorem en_slL {lo hi : Option Int} {t1 t2 : TO} (h : EvD K w te Γ (.lst ds)) (h1 : EvO K w t1 Γ lo) (h2 : EvO K w t2 Γ hi) : EvN K w (tSl (rSlL K) te t1 t2) Γ (cutD ds lo hi) := fun σ G H S Q q =>
  h σ G H S _ fun v G1 H1 g1 b1 => h1 σ G1 H1 (S.grow g1) _ fun G2 H2 g2 => h2 σ G2 H2 (S.grow (g1.trans g2)) _ fun G3 H3 g3 => by
    cases b1 with
    | lst a1 b1 =>
      refine ⟨_, _, rfl, SqL.of ((g1.s.trans (g2.r.trans g3.r)) _ _ a1), fun p hp => ?_⟩
      exact q p _ G3 _ (((g1.trans g2).trans g3).trans (Grow.hid g3.s hp _)) (Evl.fresh_back ((g1.r.trans g2.r).trans g3.r) hp) (Evl.fresh_back g3.s hp) upd_same ((b1.cut lo hi).up (g2.k.trans g3.k))
theorem en_slS {ns : List Int} {lo hi : Option Int} {t1 t2 : TO} (h : EvD K w te Γ (.scr ns)) (h1 : EvO K w t1 Γ lo) (h2 : EvO K w t2 Γ hi) : EvN K w (tSl (rSlL K) te t1 t2) Γ ((cutD ns lo hi).map D.int) := fun σ G H S Q q =>
  h σ G H S _ fun v G1 H1 g1 b1 => h1 σ G1 H1 (S.grow g1) _ fun G2 H2 g2 => h2 σ G2 H2 (S.grow (g1.trans g2)) _ fun G3 H3 g3 => by
    cases b1 with
    | scr a1 =>
      refine ⟨_, _, rfl, ex_l (g1.s.trans (g2.r.trans g3.r)) a1, fun p hp => ?_⟩
      refine q p _ G3 _ (((g1.trans g2).trans g3).trans (Grow.hid g3.s hp _)) (Evl.fresh_back ((g1.r.trans g2.r).trans g3.r) hp) (Evl.fresh_back g3.s hp) upd_same ?_
      rw [cutV_map]
      exact BeAll.ofInts _
theorem en_rev (h : EvD K w te Γ (.lst ds)) : EvN K w (tRevL K te) Γ ds.reverse := fun σ G H S Q q => h σ G H S _ fun v G1 H1 g1 b1 => by
  cases b1 with
  | lst a1 b1 =>
    refine ⟨_, _, rfl, SqL.of (g1.s _ _ a1), fun p hp => ?_⟩
    exact q p _ G1 _ (g1.trans (Grow.hid g1.s hp _)) (Evl.fresh_back g1.r hp) (Evl.fresh_back g1.s hp) upd_same b1.reverse
end
end Lh
set_option Elab.async false
set_option linter.all false
set_option maxRecDepth 100000
set_option maxHeartbeats 4000000
/-! Lh: max and min of a list of ints, with default= -/
namespace PySem
namespace LhM
open PyProof.Rows
theorem args_maxD (a v : Value) : argsOk "max" ⟨[a], [(Str.ofString "default", v)]⟩ := by unfold argsOk; kernel_rfl
theorem args_minD (a v : Value) : argsOk "min" ⟨[a], [(Str.ofString "default", v)]⟩ := by unfold argsOk; kernel_rfl
/-- what the best so far holds -/
def held : Option Value → Array Value
  | none => #[]
  | some v => #[v, v]
def Best (bt : Nat → Nat → Bool) (P : Nat → Value → Prop) (j : Nat) : Option Value → Prop
  | none => j = 0
  | some v => 0 < j ∧ P (argBest bt (j - 1)) v
abbrev accu (o : Option Value) (c : Nat) : Obj := { cls := .type "list", dict := none, data := .seq (held o) c, slots := #[] }
section
variable {prog : Program} {w : World} {A : Around} {R : Result → Shared → Prop} {I : Addr} {fp wr : List Addr} {n : Nat} {P : Nat → Value → Prop} {St : Nat → Heap → Prop} {dv : Value} {E : Value → Shared → Prop}
theorem loop_max (W : Walks prog w A.in1 I fp wr n P St) (bt : Nat → Nat → Bool) (hcmp : CmpOf prog w A.in1 .Gt P bt) (B : Addr) (hB : B ∉ fp) :
    ∀ (k j : Nat) (s : Shared) (o : Option Value) (c : Nat), n - j = k → j ≤ n → St j s.heap → Best bt P j o → s.heap.get? B = some (accu o c) →
    (∀ v h' tk, (if n = 0 then v = dv else P (argBest bt (n - 1)) v) → (∀ b x, b ∉ wr → b ≠ B → s.heap.get? b = some x → h'.get? b = some x) → R (.ok (.ret v)) { s with heap := h', toks := tk }) →
    codeAny (model prog w) A (.builtin "max.loop" ⟨[.ref I, .none, .ref B], [(Str.ofString "default", dv)]⟩) R s := by
  have hw : B ∉ wr := fun h => hB (W.sub _ h)
  have nm : (toString "max" ++ toString ".loop" : String) = "max.loop" := by decide
  intro k
  induction k with
  | zero =>
    intro j s o c hk hj st hb hS hR
    have hin : j = n := by omega
    subst hin
    refine codeAny_builtin PySem.F.entry_max_loop ?_
    rw [Around.under_plainId PySem.F.plain_max_loop _]
    show wpAny _ A.in1 (seqItems? (.ref B) >>= fun _ => _) _ _ s
    refine wpAny_bind (wpAny_seqItems hS rfl ?_)
    show wpAny _ A.in1 (tryCatch (pyNext (.ref I)) (fun _ => _) >>= fun _ => _) _ _ s
    refine wpAny_bind (wpAny_tryCatch (W.done s _ _ st fun h' tk hk' => ?_))
    have hS' := hk' B _ hw hS
    cases o with
    | none =>
      have z : j = 0 := hb
      subst z
      show wpAny _ A.in1 (rule _ >>= fun _ => ret dv) _ _ _
      refine wpAny_bind (wpAny_rule ?_)
      exact wpAny_pure (hR dv h' tk (by rw [if_pos rfl]) fun b x h1 _ e => hk' b x h1 e)
    | some vb =>
      have hb : 0 < j ∧ P (argBest bt (j - 1)) vb := hb
      show wpAny _ A.in1 (updateSeq B (fun _ => #[]) >>= fun _ => _) _ _ _
      refine wpAny_bind ?_
      refine wpAny_updateSeq (hz := by show 2 ≤ sizeLine; decide) hS' rfl (wpAny_bind (wpAny_letGo (wpAny_pure ?_)))
      refine hR vb _ tk (by rw [if_neg (by omega)]; exact hb.2) fun b x h1 h2 e => ?_
      exact (Heap.get?_update_other _ _ (Ne.symm h2)).trans (hk' b x h1 e)
  | succ k ih =>
    intro j s o c hk hj st hb hS hR
    have lt : j < n := by omega
    refine codeAny_builtin PySem.F.entry_max_loop ?_
    rw [Around.under_plainId PySem.F.plain_max_loop _]
    show wpAny _ A.in1 (seqItems? (.ref B) >>= fun _ => _) _ _ s
    refine wpAny_bind (wpAny_seqItems hS rfl ?_)
    show wpAny _ A.in1 (tryCatch (pyNext (.ref I)) (fun _ => _) >>= fun _ => _) _ _ s
    refine wpAny_bind (wpAny_tryCatch (W.item j s _ _ lt st fun v h' tk hP st' hk' => ?_))
    have hS' := hk' B _ hw hS
    cases o with
    | none =>
      have z : j = 0 := hb
      subst z
      show wpAny _ A.in1 (updateSeq B (fun _ => #[v, v]) >>= fun _ => _) _ _ _
      refine wpAny_bind ?_
      refine wpAny_updateSeq hS' rfl ?_
      rw [nm]
      refine wpAny_pure ⟨plainId_quiet PySem.F.plain_max_loop _, ih 1 _ (some v) _ (by omega) lt (W.frame _ _ _ st' fun b hbf x e => ?_) ⟨Nat.one_pos, hP⟩ (Heap.get?_update_self _ hS' rfl) fun v' h'' tk'' hP' hk'' => ?_⟩
      · exact (Heap.get?_update_other _ _ (fun h : B = b => hB (by rw [h]; exact hbf))).trans e
      · exact hR v' h'' tk'' hP' fun b x h1 h2 e => hk'' b x h1 h2 ((Heap.get?_update_other _ _ (Ne.symm h2)).trans (hk' b x h1 e))
    | some vb =>
      have hb : 0 < j ∧ P (argBest bt (j - 1)) vb := hb
      obtain ⟨i, rfl⟩ : ∃ i, j = i + 1 := ⟨j - 1, by omega⟩
      show wpAny _ A.in1 (tryCatch (holding [v, v] (richCompare .Gt v vb >>= fun _ => _)) (fun _ => _) >>= fun _ => _) _ _ _
      refine wpAny_bind (wpAny_tryCatch (wpAny_holding (wpAny_bind (hcmp (i + 1) (argBest bt i) v vb _ _ _ hP hb.2 ?_))))
      refine wpAny_bind (wpAny_holding (wpAny_truthy_bool ?_))
      refine wpAny_bind (wpAny_letGo (wpAny_pure ?_))
      cases q : bt (i + 1) (argBest bt i) with
      | true =>
        simp only [if_true]
        refine wpAny_bind ?_
        refine wpAny_updateSeq (hz := by show 2 ≤ sizeLine; decide) hS' rfl (wpAny_bind (wpAny_letGo ?_))
        rw [nm]
        refine wpAny_pure ⟨plainId_quiet PySem.F.plain_max_loop _, ih (i + 2) _ (some v) _ (by omega) lt (W.frame _ _ _ st' fun b hbf x e => ?_) ⟨Nat.succ_pos _, by show P (argBest bt (i + 1)) v; simp only [argBest, q, if_true]; exact hP⟩ (Heap.get?_update_self _ hS' rfl) fun v' h'' tk'' hP' hk'' => ?_⟩
        · exact (Heap.get?_update_other _ _ (fun h : B = b => hB (by rw [h]; exact hbf))).trans e
        · exact hR v' h'' tk'' hP' fun b x h1 h2 e => hk'' b x h1 h2 ((Heap.get?_update_other _ _ (Ne.symm h2)).trans (hk' b x h1 e))
      | false =>
        simp only [Bool.false_eq_true, if_false]
        refine wpAny_bind (wpAny_letGo ?_)
        rw [nm]
        refine wpAny_pure ⟨plainId_quiet PySem.F.plain_max_loop _, ih (i + 2) _ (some vb) c (by omega) lt st' ⟨Nat.succ_pos _, by show P (argBest bt (i + 1)) vb; simp only [argBest, q, Bool.false_eq_true, if_false]; exact hb.2⟩ hS' fun v' h'' tk'' hP' hk'' => ?_⟩
        exact hR v' h'' tk'' hP' fun b x h1 h2 e => hk'' b x h1 h2 (hk' b x h1 e)
theorem loop_min (W : Walks prog w A.in1 I fp wr n P St) (bt : Nat → Nat → Bool) (hcmp : CmpOf prog w A.in1 .Lt P bt) (B : Addr) (hB : B ∉ fp) :
    ∀ (k j : Nat) (s : Shared) (o : Option Value) (c : Nat), n - j = k → j ≤ n → St j s.heap → Best bt P j o → s.heap.get? B = some (accu o c) →
    (∀ v h' tk, (if n = 0 then v = dv else P (argBest bt (n - 1)) v) → (∀ b x, b ∉ wr → b ≠ B → s.heap.get? b = some x → h'.get? b = some x) → R (.ok (.ret v)) { s with heap := h', toks := tk }) →
    codeAny (model prog w) A (.builtin "min.loop" ⟨[.ref I, .none, .ref B], [(Str.ofString "default", dv)]⟩) R s := by
  have hw : B ∉ wr := fun h => hB (W.sub _ h)
  have nm : (toString "min" ++ toString ".loop" : String) = "min.loop" := by decide
  intro k
  induction k with
  | zero =>
    intro j s o c hk hj st hb hS hR
    have hin : j = n := by omega
    subst hin
    refine codeAny_builtin PySem.F.entry_min_loop ?_
    rw [Around.under_plainId PySem.F.plain_min_loop _]
    show wpAny _ A.in1 (seqItems? (.ref B) >>= fun _ => _) _ _ s
    refine wpAny_bind (wpAny_seqItems hS rfl ?_)
    show wpAny _ A.in1 (tryCatch (pyNext (.ref I)) (fun _ => _) >>= fun _ => _) _ _ s
    refine wpAny_bind (wpAny_tryCatch (W.done s _ _ st fun h' tk hk' => ?_))
    have hS' := hk' B _ hw hS
    cases o with
    | none =>
      have z : j = 0 := hb
      subst z
      show wpAny _ A.in1 (rule _ >>= fun _ => ret dv) _ _ _
      refine wpAny_bind (wpAny_rule ?_)
      exact wpAny_pure (hR dv h' tk (by rw [if_pos rfl]) fun b x h1 _ e => hk' b x h1 e)
    | some vb =>
      have hb : 0 < j ∧ P (argBest bt (j - 1)) vb := hb
      show wpAny _ A.in1 (updateSeq B (fun _ => #[]) >>= fun _ => _) _ _ _
      refine wpAny_bind ?_
      refine wpAny_updateSeq (hz := by show 2 ≤ sizeLine; decide) hS' rfl (wpAny_bind (wpAny_letGo (wpAny_pure ?_)))
      refine hR vb _ tk (by rw [if_neg (by omega)]; exact hb.2) fun b x h1 h2 e => ?_
      exact (Heap.get?_update_other _ _ (Ne.symm h2)).trans (hk' b x h1 e)
  | succ k ih =>
    intro j s o c hk hj st hb hS hR
    have lt : j < n := by omega
    refine codeAny_builtin PySem.F.entry_min_loop ?_
    rw [Around.under_plainId PySem.F.plain_min_loop _]
    show wpAny _ A.in1 (seqItems? (.ref B) >>= fun _ => _) _ _ s
    refine wpAny_bind (wpAny_seqItems hS rfl ?_)
    show wpAny _ A.in1 (tryCatch (pyNext (.ref I)) (fun _ => _) >>= fun _ => _) _ _ s
    refine wpAny_bind (wpAny_tryCatch (W.item j s _ _ lt st fun v h' tk hP st' hk' => ?_))
    have hS' := hk' B _ hw hS
    cases o with
    | none =>
      have z : j = 0 := hb
      subst z
      show wpAny _ A.in1 (updateSeq B (fun _ => #[v, v]) >>= fun _ => _) _ _ _
      refine wpAny_bind ?_
      refine wpAny_updateSeq hS' rfl ?_
      rw [nm]
      refine wpAny_pure ⟨plainId_quiet PySem.F.plain_min_loop _, ih 1 _ (some v) _ (by omega) lt (W.frame _ _ _ st' fun b hbf x e => ?_) ⟨Nat.one_pos, hP⟩ (Heap.get?_update_self _ hS' rfl) fun v' h'' tk'' hP' hk'' => ?_⟩
      · exact (Heap.get?_update_other _ _ (fun h : B = b => hB (by rw [h]; exact hbf))).trans e
      · exact hR v' h'' tk'' hP' fun b x h1 h2 e => hk'' b x h1 h2 ((Heap.get?_update_other _ _ (Ne.symm h2)).trans (hk' b x h1 e))
    | some vb =>
      have hb : 0 < j ∧ P (argBest bt (j - 1)) vb := hb
      obtain ⟨i, rfl⟩ : ∃ i, j = i + 1 := ⟨j - 1, by omega⟩
      show wpAny _ A.in1 (tryCatch (holding [v, v] (richCompare .Lt v vb >>= fun _ => _)) (fun _ => _) >>= fun _ => _) _ _ _
      refine wpAny_bind (wpAny_tryCatch (wpAny_holding (wpAny_bind (hcmp (i + 1) (argBest bt i) v vb _ _ _ hP hb.2 ?_))))
      refine wpAny_bind (wpAny_holding (wpAny_truthy_bool ?_))
      refine wpAny_bind (wpAny_letGo (wpAny_pure ?_))
      cases q : bt (i + 1) (argBest bt i) with
      | true =>
        simp only [if_true]
        refine wpAny_bind ?_
        refine wpAny_updateSeq (hz := by show 2 ≤ sizeLine; decide) hS' rfl (wpAny_bind (wpAny_letGo ?_))
        rw [nm]
        refine wpAny_pure ⟨plainId_quiet PySem.F.plain_min_loop _, ih (i + 2) _ (some v) _ (by omega) lt (W.frame _ _ _ st' fun b hbf x e => ?_) ⟨Nat.succ_pos _, by show P (argBest bt (i + 1)) v; simp only [argBest, q, if_true]; exact hP⟩ (Heap.get?_update_self _ hS' rfl) fun v' h'' tk'' hP' hk'' => ?_⟩
        · exact (Heap.get?_update_other _ _ (fun h : B = b => hB (by rw [h]; exact hbf))).trans e
        · exact hR v' h'' tk'' hP' fun b x h1 h2 e => hk'' b x h1 h2 ((Heap.get?_update_other _ _ (Ne.symm h2)).trans (hk' b x h1 e))
      | false =>
        simp only [Bool.false_eq_true, if_false]
        refine wpAny_bind (wpAny_letGo ?_)
        rw [nm]
        refine wpAny_pure ⟨plainId_quiet PySem.F.plain_min_loop _, ih (i + 2) _ (some vb) c (by omega) lt st' ⟨Nat.succ_pos _, by show P (argBest bt (i + 1)) vb; simp only [argBest, q, Bool.false_eq_true, if_false]; exact hb.2⟩ hS' fun v' h'' tk'' hP' hk'' => ?_⟩
        exact hR v' h'' tk'' hP' fun b x h1 h2 e => hk'' b x h1 h2 (hk' b x h1 e)
variable {s : Shared} {l : Addr} {xs : Array (Int × Tok)}
theorem call_maxD {Q : Value → Shared → Prop} (hh : A.handled = none) (hl : s.heap.IsList l (intItems xs))
    (h : ∀ v h' tk, (if xs.size = 0 then v = dv else (intItems xs)[argBest (fun i j => decide (numAt xs i > numAt xs j)) (xs.size - 1)]? = some v) → (∀ b o, s.heap.get? b = some o → h'.get? b = some o) → Q v { s with heap := h', toks := tk }) :
    wpAny (model prog w) A (call (.builtin "max") [.ref l] [(Str.ofString "default", dv)]) Q E s := by
  have nm : (toString "max" ++ toString ".loop" : String) = "max.loop" := by decide
  have hlt : l < s.heap.objs.size := by obtain ⟨_, e, _⟩ := hl; exact Heap.lt_size e
  refine kmb_tree PySem.F.kind_max PySem.F.plain_max PySem.F.entry_max (args_maxD _ _) ?_
  show wpAny _ A.in1 (Builtin.Builtins.bindParams "max" ["key", "default"] 0 ⟨[], [(Str.ofString "default", dv)]⟩ >>= fun _ => _) _ _ s
  refine wpAny_bind (wpAny_of_eq (show Builtin.Builtins.bindParams "max" ["key", "default"] 0 ⟨[], [(Str.ofString "default", dv)]⟩ = pure [none, some dv] from rfl) ?_)
  refine wpAny_bind (wpAny_pure ?_)
  refine wpAny_bind (wpAny_pyIter_list hl ?_)
  refine wpAny_bind (wpAny_newList ?_ (Nat.zero_le _))
  rw [nm]
  have hS : (s.heap.push { cls := .type "list_iterator", data := .fields #[.ref l, .int 0 0] }).objs.size = s.heap.objs.size + 1 := Heap.size_push ..
  have hB : (s.heap.push { cls := .type "list_iterator", data := .fields #[.ref l, .int 0 0] }).objs.size ∉ [s.heap.objs.size, l] := by
    rw [hS]
    simp only [List.mem_cons, List.not_mem_nil, or_false, not_or]
    exact ⟨Nat.ne_of_gt (Nat.lt_succ_self _), Nat.ne_of_gt (Nat.lt_succ_of_lt hlt)⟩
  refine wpAny_pure ⟨plainId_quiet PySem.F.plain_max_loop _, ?_⟩
  refine loop_max (n := (intItems xs).size) (Walks.list (A := A.in1) hh s.heap.objs.size l (Nat.ne_of_lt hlt) (intItems xs)) _ (CmpOf.ints_gt (numAt xs) (fun _ _ => intItems_at)) _ hB _ 0 _ none 0 rfl (Nat.zero_le _)
    ⟨⟨_, Heap.get?_push_of_some _ (Heap.get?_push_size _ rfl), rfl, rfl⟩, (hl.push _).push _⟩ rfl (Heap.get?_push_size _ rfl) fun v h' tk hv hk => ?_
  have hz : (intItems xs).size = xs.size := by simp [intItems]
  rw [hz] at hv
  refine h v h' tk hv fun b o e => ?_
  refine hk b o (fun hm => ?_) (fun z => ?_) (Heap.get?_push_of_some _ (Heap.get?_push_of_some _ e))
  · rcases List.mem_cons.mp hm with e1 | hm
    · exact absurd (e1 ▸ Heap.lt_size e) (Nat.lt_irrefl _)
    · cases hm
  · rw [hS] at z
    exact absurd (Nat.lt_succ_of_lt (Heap.lt_size e)) (by rw [z]; exact Nat.lt_irrefl _)
theorem call_minD {Q : Value → Shared → Prop} (hh : A.handled = none) (hl : s.heap.IsList l (intItems xs))
    (h : ∀ v h' tk, (if xs.size = 0 then v = dv else (intItems xs)[argBest (fun i j => decide (numAt xs i < numAt xs j)) (xs.size - 1)]? = some v) → (∀ b o, s.heap.get? b = some o → h'.get? b = some o) → Q v { s with heap := h', toks := tk }) :
    wpAny (model prog w) A (call (.builtin "min") [.ref l] [(Str.ofString "default", dv)]) Q E s := by
  have nm : (toString "min" ++ toString ".loop" : String) = "min.loop" := by decide
  have hlt : l < s.heap.objs.size := by obtain ⟨_, e, _⟩ := hl; exact Heap.lt_size e
  refine kmb_tree PySem.F.kind_min PySem.F.plain_min PySem.F.entry_min (args_minD _ _) ?_
  show wpAny _ A.in1 (Builtin.Builtins.bindParams "min" ["key", "default"] 0 ⟨[], [(Str.ofString "default", dv)]⟩ >>= fun _ => _) _ _ s
  refine wpAny_bind (wpAny_of_eq (show Builtin.Builtins.bindParams "min" ["key", "default"] 0 ⟨[], [(Str.ofString "default", dv)]⟩ = pure [none, some dv] from rfl) ?_)
  refine wpAny_bind (wpAny_pure ?_)
  refine wpAny_bind (wpAny_pyIter_list hl ?_)
  refine wpAny_bind (wpAny_newList ?_ (Nat.zero_le _))
  rw [nm]
  have hS : (s.heap.push { cls := .type "list_iterator", data := .fields #[.ref l, .int 0 0] }).objs.size = s.heap.objs.size + 1 := Heap.size_push ..
  have hB : (s.heap.push { cls := .type "list_iterator", data := .fields #[.ref l, .int 0 0] }).objs.size ∉ [s.heap.objs.size, l] := by
    rw [hS]
    simp only [List.mem_cons, List.not_mem_nil, or_false, not_or]
    exact ⟨Nat.ne_of_gt (Nat.lt_succ_self _), Nat.ne_of_gt (Nat.lt_succ_of_lt hlt)⟩
  refine wpAny_pure ⟨plainId_quiet PySem.F.plain_min_loop _, ?_⟩
  refine loop_min (n := (intItems xs).size) (Walks.list (A := A.in1) hh s.heap.objs.size l (Nat.ne_of_lt hlt) (intItems xs)) _ (CmpOf.ints_lt (numAt xs) (fun _ _ => intItems_at)) _ hB _ 0 _ none 0 rfl (Nat.zero_le _)
    ⟨⟨_, Heap.get?_push_of_some _ (Heap.get?_push_size _ rfl), rfl, rfl⟩, (hl.push _).push _⟩ rfl (Heap.get?_push_size _ rfl) fun v h' tk hv hk => ?_
  have hz : (intItems xs).size = xs.size := by simp [intItems]
  rw [hz] at hv
  refine h v h' tk hv fun b o e => ?_
  refine hk b o (fun hm => ?_) (fun z => ?_) (Heap.get?_push_of_some _ (Heap.get?_push_of_some _ e))
  · rcases List.mem_cons.mp hm with e1 | hm
    · exact absurd (e1 ▸ Heap.lt_size e) (Nat.lt_irrefl _)
    · cases hm
  · rw [hS] at z
    exact absurd (Nat.lt_succ_of_lt (Heap.lt_size e)) (by rw [z]; exact Nat.lt_irrefl _)
end
end LhM
end PySem
set_option Elab.async false
set_option linter.all false
set_option maxRecDepth 100000
set_option maxHeartbeats 4000000
/-! Lh: set(a list of ints), as a set whose walk is known -/
namespace PySem
namespace LhS
open PyProof.Rows L2 PySem.Spec
abbrev emp (w : World) : Obj := { cls := .type "set", dict := none, data := .set #[] 0 (.fresh 0 0 (!w.params.followText "set-order")) }
section
variable {P : Program} {w : World} {A : Around} {E : Value → Shared → Prop} {s : Shared}
theorem set_of_list {l : Addr} {vs : Array Value} (ns : List Int) {Q : Value → Shared → Prop} (hh : A.handled = none) (hl : s.heap.IsList l vs) (hi : IntsAre vs.toList ns) (hb : ns.length + 1 < scanBound)
    (h : ∀ (h' : Heap) (tk c : Nat), SetR w h' s.heap.objs.size (fun j => decide (j ∈ ns)) c → c ≤ ns.length → (∀ b o, s.heap.get? b = some o → h'.get? b = some o) → Q (.ref s.heap.objs.size) { s with heap := h', toks := tk }) :
    wpAny (model P w) A (call (.type "set") [.ref l]) Q E s := by
  have hsz : vs.size = ns.length := by
    have q := IntsAre.length hi
    simpa using q
  obtain ⟨_, _, hm⟩ := F.called_set.mro
  have c1 := F.called_set.made
  have c2 := F.called_set.sub
  have c3 := F.called_set.notType
  have c4 := F.called_set.canCreate
  refine wpAny_call (codeAny_of_tree ?_)
  show wpAny _ _ (callAny (.type "set") _) (fun _ _ => _) _ _
  refine wpAny_pure ⟨Code.quiet_builtin _ (by decide +kernel), codeAny_builtin F.entry_type_call ?_⟩
  rw [Around.under_plain (weight_type_call_type "set" [.ref l] []) rfl]
  have c5 := F.typeCall_set_1 (.ref l)
  repeat (any_goals (first | assumption | wp_step))
  let h0 : Heap := s.heap.push (emp w)
  have e0 : h0.get? s.heap.objs.size = some (emp w) := Heap.get?_push_size _ rfl
  refine codeAny_mono (code_set_led1 (.ref l) (E := E) (Q₁ := fun v s1 => v = .ref s.heap.objs.size ∧ s1 = { s with heap := h0 }) ⟨rfl, rfl⟩) fun r s1 hr => ?_
  match r, hr with
  | .error _, hr => exact hr
  | .ok .next, hr => exact hr.elim
  | .ok .brk, hr => exact hr.elim
  | .ok .cont, hr => exact hr.elim
  | .ok (.ret v), hr =>
    obtain ⟨rfl, rfl⟩ := hr
    have ty : Shared.TypeIs { s with heap := h0 } (.ref s.heap.objs.size) "set" := ⟨_, e0, rfl⟩
    have d1 := F.called_set.init.lookup
    have d2 := F.called_set.init.bind (.ref s.heap.objs.size)
    repeat (any_goals (first | assumption | wp_step))
    refine codeAny_mono (codeAny_call_builtin (R := wants (fun r s2 => r = .none ∧ ∃ h' tk c, s2 = { s with heap := h', toks := tk } ∧ SetR w h' s.heap.objs.size (fun j => decide (j ∈ ns)) c ∧ c ≤ ns.length ∧
        (∀ b o, s.heap.get? b = some o → h'.get? b = some o)) E) F.called_set.init.plain F.entry_set_init (check_set_init_1 ty ?_)) fun r2 s2 hr2 => ?_
    · obtain ⟨⟨cl, di, da, sl⟩, o1, o2, n, o3⟩ := hl
      simp only at o2 o3
      subst o2
      subst o3
      have lt : l < s.heap.objs.size := Heap.lt_size o1
      have o4 : h0.get? l = some { cls := .type "list", dict := di, data := .seq vs n, slots := sl } := Heap.get?_push_of_some _ o1
      have t1 := F.sub_list_set
      have t2 := F.sub_list_frozenset
      have t3 : (Value.type "list" == Value.type "dict") = false := by decide
      have li : h0.IsList l vs := ⟨_, o4, rfl, n, rfl⟩
      unfold Builtin.«set.__init__» noKeywords Builtin.Frozenset.updateFrom
      generalize pyiter : pyIter = it
      wp_walk
      subst pyiter
      refine wpAny_pyIter_list li ?_
      refine wpAny_bind (wpAny_runValue ?_)
      have hh3 : A.in1.in1.in1.handled = none := by simp [hh]
      have z0 : h0.objs.size = s.heap.objs.size + 1 := Heap.size_push ..
      have ne : l ≠ h0.objs.size := by rw [z0]; exact Nat.ne_of_lt (Nat.lt_succ_of_lt lt)
      have nin : s.heap.objs.size ∉ [h0.objs.size, l] := by
        rw [z0]
        simp only [List.mem_cons, List.not_mem_nil, or_false, not_or]
        exact ⟨Nat.ne_of_lt (Nat.lt_succ_self _), Nat.ne_of_gt lt⟩
      have val : ∀ (i : Nat) (v : Value), vs[i]? = some v → ∃ k t, ns[i]? = some k ∧ v = .int k t := fun i v hv => by
        have hi2 : i < ns.length := by rw [← hsz]; exact (Array.getElem?_eq_some_iff.mp hv).1
        obtain ⟨t, e⟩ := PyProof.Rows.IntsAre.int_at hi i v (by rw [Array.getElem?_toList]; exact hv)
        refine ⟨ns[i], t, List.getElem?_eq_getElem hi2, ?_⟩
        rw [e, List.getD_eq_getElem?_getD, List.getElem?_eq_getElem hi2] <;> rfl
      refine set_update_ints ((Walks.list hh3 _ l ne vs).toS) s.heap.objs.size nin ns hsz hb val (vs.size - 0) 0 _ (by omega) (Nat.zero_le _)
        ⟨⟨_, Heap.get?_push_size _ rfl, rfl, rfl⟩, (li.push _)⟩ ⟨0, Nat.le_refl 0, setR_new_at (Heap.get?_push_of_some _ e0)⟩ fun s' c' mv hc' R' => ?_
      obtain ⟨h', g', d', tk', os'⟩ := s'
      obtain rfl : g' = s.gens := mv.gens
      obtain rfl : d' = s.drawn := mv.drawn
      obtain rfl : os' = s.os := mv.os
      show wpAny _ _ _ (fun _ _ => _) _ _
      refine wpAny_pure ?_
      show wpAny _ _ (ret Value.none) (fun _ _ => _) _ _
      rw [hsz] at hc'
      refine wpAny_pure ⟨rfl, h', tk', c', rfl, R', hc', fun b o e => ?_⟩
      have b0 : b < s.heap.objs.size := Heap.lt_size e
      refine mv.heap b o ?_ (Heap.get?_push_of_some _ (Heap.get?_push_of_some _ e))
      simp only [List.mem_cons, List.not_mem_nil, or_false, not_or]
      exact ⟨Nat.ne_of_lt b0, by rw [z0]; exact Nat.ne_of_lt (Nat.lt_succ_of_lt b0)⟩
    · match r2, hr2 with
      | .error _, hr2 => exact hr2
      | .ok .next, hr2 => exact hr2.elim
      | .ok .brk, hr2 => exact hr2.elim
      | .ok .cont, hr2 => exact hr2.elim
      | .ok (.ret v), hr2 =>
        obtain ⟨rfl, h', tk, c', rfl, R', hc', hk⟩ := hr2
        repeat (any_goals (first | assumption | wp_step))
        exact h _ _ _ R' hc' hk
end
end LhS
end PySem
set_option Elab.async false
set_option linter.all false
set_option maxRecDepth 100000
set_option maxHeartbeats 4000000
/-! Lh: calls of built-ins on data -/
namespace Lh
open PySem L2 PyProof.Rows
open Evl (Ex ex_l ex_t sz_of sz_lt)

/-! ### strictly rising lists -/
def insU (n : Int) : List Int → List Int
  | [] => [n]
  | m :: r => if n < m then n :: m :: r else if n = m then m :: r else m :: insU n r
/-- the different ones, rising -/
def srtU : List Int → List Int
  | [] => []
  | n :: r => insU n (srtU r)
theorem insU_mem (n k : Int) : ∀ l, k ∈ insU n l ↔ k = n ∨ k ∈ l
  | [] => by simp [insU]
  | m :: r => by
    unfold insU
    split
    · simp
    · split
      · rename_i h
        subst h
        simp
      · rw [List.mem_cons, insU_mem n k r, List.mem_cons]
        constructor
        · rintro (h | h | h)
          · exact .inr (.inl h)
          · exact .inl h
          · exact .inr (.inr h)
        · rintro (h | h | h)
          · exact .inr (.inl h)
          · exact .inl h
          · exact .inr (.inr h)
theorem insU_up (n : Int) : ∀ l, l.Pairwise (· < ·) → (insU n l).Pairwise (· < ·)
  | [], _ => by simp [insU]
  | m :: r, h => by
    have h := List.pairwise_cons.mp h
    unfold insU
    split
    · rename_i c
      refine List.pairwise_cons.mpr ⟨fun x hx => ?_, List.pairwise_cons.mpr h⟩
      rcases List.mem_cons.mp hx with e | hx
      · rw [e]
        exact c
      · have := h.1 x hx
        omega
    · split
      · exact List.pairwise_cons.mpr h
      · rename_i c d
        refine List.pairwise_cons.mpr ⟨fun x hx => ?_, insU_up n r h.2⟩
        rcases (insU_mem n x r).mp hx with e | hx
        · omega
        · exact h.1 x hx
theorem srtU_mem (k : Int) : ∀ l, k ∈ srtU l ↔ k ∈ l
  | [] => by simp [srtU]
  | n :: r => by
    show k ∈ insU n (srtU r) ↔ _
    rw [insU_mem, srtU_mem k r, List.mem_cons]
theorem srtU_up : ∀ l, (srtU l).Pairwise (· < ·)
  | [] => List.Pairwise.nil
  | n :: r => insU_up n _ (srtU_up r)
theorem up_ext : ∀ {a b : List Int}, a.Pairwise (· < ·) → b.Pairwise (· < ·) → (∀ k, k ∈ a ↔ k ∈ b) → a = b
  | [], [], _, _, _ => rfl
  | [], y :: b, _, _, h => by
    have := (h y).mpr List.mem_cons_self
    cases this
  | x :: a, [], _, _, h => by
    have := (h x).mp List.mem_cons_self
    cases this
  | x :: a, y :: b, ha, hb, h => by
    have ha := List.pairwise_cons.mp ha
    have hb := List.pairwise_cons.mp hb
    have e : x = y := by
      rcases List.mem_cons.mp ((h x).mp List.mem_cons_self) with e | e
      · exact e
      · rcases List.mem_cons.mp ((h y).mpr List.mem_cons_self) with e2 | e2
        · exact e2.symm
        · have h1 := hb.1 x e
          have h2 := ha.1 y e2
          omega
    subst e
    congr 1
    refine up_ext ha.2 hb.2 fun k => ⟨fun hk => ?_, fun hk => ?_⟩
    · rcases List.mem_cons.mp ((h k).mp (List.mem_cons_of_mem _ hk)) with e | e
      · have := ha.1 k hk
        omega
      · exact e
    · rcases List.mem_cons.mp ((h k).mpr (List.mem_cons_of_mem _ hk)) with e | e
      · have := hb.1 k hk
        omega
      · exact e
theorem up_nodup {a : List Int} (h : a.Pairwise (· < ·)) : a.Nodup := h.imp fun h => by omega
theorem srtU_of_up {a : List Int} (h : a.Pairwise (· < ·)) : srtU a = a := up_ext (srtU_up a) h fun k => srtU_mem k a
theorem cnt_le : ∀ l, cnt l ≤ l.length
  | [] => Nat.le_refl _
  | n :: r => by
    have := cnt_le r
    show (if n ∈ r then cnt r else cnt r + 1) ≤ r.length + 1
    split <;> omega
theorem cnt_nodup : ∀ {l : List Int}, l.Nodup → cnt l = l.length
  | [], _ => rfl
  | n :: r, h => by
    have h := List.nodup_cons.mp h
    show (if n ∈ r then cnt r else cnt r + 1) = r.length + 1
    rw [if_neg h.1, cnt_nodup h.2]
theorem nodup_of_cnt : ∀ {l : List Int}, cnt l = l.length → l.Nodup
  | [], _ => List.Pairwise.nil
  | n :: r, h => by
    have h : (if n ∈ r then cnt r else cnt r + 1) = r.length + 1 := h
    have := cnt_le r
    by_cases q : n ∈ r
    · rw [if_pos q] at h
      omega
    · rw [if_neg q] at h
      exact List.nodup_cons.mpr ⟨q, nodup_of_cnt (by omega)⟩
theorem cnt_of {l : List Int} (hn : l.Nodup) : ∀ {ns : List Int}, (∀ k, k ∈ ns ↔ k ∈ l) → l.length = cnt ns := by
  intro ns
  induction ns generalizing l with
  | nil =>
    intro h
    cases l with
    | nil => rfl
    | cons x r => exact absurd ((h x).mpr List.mem_cons_self) (by simp)
  | cons n r ih =>
    intro h
    show l.length = if n ∈ r then cnt r else cnt r + 1
    by_cases q : n ∈ r
    · rw [if_pos q]
      refine ih hn fun k => ⟨fun hk => (h k).mp (List.mem_cons_of_mem _ hk), fun hk => ?_⟩
      rcases List.mem_cons.mp ((h k).mpr hk) with e | e
      · rw [e]
        exact q
      · exact e
    · rw [if_neg q]
      have hm : n ∈ l := (h n).mp List.mem_cons_self
      have h2 : (l.erase n).length = cnt r := by
        refine ih (hn.erase n) fun k => ?_
        rw [hn.mem_erase_iff, ← h k, List.mem_cons]
        constructor
        · intro hk
          exact ⟨fun e => q (e ▸ hk), .inr hk⟩
        · rintro ⟨h1, h2 | h2⟩
          · exact absurd h2 h1
          · exact h2
      rw [← h2, List.length_erase_of_mem hm]
      have : 0 < l.length := List.length_pos_of_mem hm
      omega

/-! ### set(xs), len(a set), sorted(a set) -/
section
variable {X : Cx}
def rSetL (K : PySem.W.Frag) (w : World) : List V → Hp → VK → Prop := fun vs H Q => ∃ (a : Addr) (ns : List Int), vs = [.ref a] ∧ SqL K H a (ns.map V.int) ∧ ns.length ≤ 4000 ∧
  ∀ p, H p = none → Q (.ref p) (upd H p (SetO w p (fun k => decide (k ∈ ns)) (cnt ns)))
theorem cr_setL (hc : X.calm = true) : CallR X (.type "set") (rSetL X.K X.w) := by
  intro pins s σ H vs us Q I r h
  obtain ⟨a, ns, rfl, hs, hz, q⟩ := h
  obtain ⟨its, rv, hl, _⟩ := I.list hs
  rw [Vals.ref1 r]
  refine PySem.LhS.set_of_list (vs := its.toArray) ns (I.ok.hd hc) hl.isList (by simpa using rv.ints) (by unfold scanBound; omega) fun h' tk c R _ hk => ?_
  have hn : H s.heap.objs.size = none := I.hok.fresh (Nat.le_refl _)
  have ec : c = cnt ns := by
    obtain ⟨o, es, ep, t, ho, hex, hd, hg, hnd, hm, _, _, hsz, _⟩ := R
    rw [← hsz]
    have := cnt_of (ns := ns) hnd fun k => by
      rw [← hm k]
      simp
    rw [← this, List.length_map, Array.length_toList]
  subst ec
  refine ⟨.ref s.heap.objs.size, upd H s.heap.objs.size (SetO X.w s.heap.objs.size (fun k => decide (k ∈ ns)) (cnt ns)), I.laid (t' := tk) hk (Nat.le_refl _) (setO_new R), rfl, q _ hn⟩
def rLenSet (w : World) : List V → Hp → VK → Prop := fun vs H Q => ∃ (a : Addr) (S : Int → Bool) (n : Nat), vs = [.ref a] ∧ H a = some (SetO w a S n) ∧ n ≤ 4000 ∧ Q (.int n) H
theorem cr_lenSet : CallR X (.builtin "len") (rLenSet X.w) := by
  intro pins s σ H vs us Q I r h
  obtain ⟨a, S, n, rfl, ha, hz, q⟩ := h
  rw [Vals.ref1 r]
  have R : s.heap.SetOf (intKind X.prog X.w) a S n := (setO_get I ha).setOf
  obtain ⟨o, es, ep, t, ho, hex, hd, _, _, _, hf, hn⟩ := R
  exact call_len_set ho hex hd hf (by rw [hn] <;> omega) ⟨.int n, H, I.tok _, ⟨_, by rw [hn]⟩, q⟩
/-- the union of two rules of one call -/
theorem cr_or {f : Value} {r1 r2 : List V → Hp → VK → Prop} (h1 : CallR X f r1) (h2 : CallR X f r2) : CallR X f (fun vs H Q => r1 vs H Q ∨ r2 vs H Q) := by
  intro pins s σ H vs us Q I r h
  rcases h with h | h
  · exact h1 pins s σ H vs us Q I r h
  · exact h2 pins s σ H vs us Q I r h
def rLenA (K : PySem.W.Frag) (w : World) : List V → Hp → VK → Prop := fun vs H Q => rLenB K vs H Q ∨ rLenSet w vs H Q
theorem cr_lenA : CallR X (.builtin "len") (rLenA X.K X.w) := cr_or call_lenB cr_lenSet
/-- sorted of a set, or of a list of ints -/
def rSortedA (K : PySem.W.Frag) (w : World) : List V → Hp → VK → Prop := rSortedSet w
theorem cr_sortedA (hc : X.calm = true) : CallR X (.builtin "sorted") (rSortedA X.K X.w) := cr_sortedSet hc

/-! ### max, min with default= -/
def maxI : List Int → Int
  | [] => 0
  | [n] => n
  | n :: r => if n < maxI r then maxI r else n
def minI : List Int → Int
  | [] => 0
  | [n] => n
  | n :: r => if minI r < n then minI r else n
theorem maxI_mem : ∀ {l : List Int}, l ≠ [] → maxI l ∈ l
  | [], h => absurd rfl h
  | [n], _ => by simp [maxI]
  | n :: m :: r, _ => by
    have ih := maxI_mem (l := m :: r) (by simp)
    show (if n < maxI (m :: r) then maxI (m :: r) else n) ∈ _
    split
    · exact List.mem_cons_of_mem _ ih
    · exact List.mem_cons_self
theorem maxI_le : ∀ {l : List Int} {k : Int}, k ∈ l → k ≤ maxI l
  | [], k, h => by cases h
  | [n], k, h => by
    have : k = n := by simpa using h
    rw [this]
    exact Int.le_refl _
  | n :: m :: r, k, h => by
    have e : maxI (n :: m :: r) = (if n < maxI (m :: r) then maxI (m :: r) else n) := rfl
    rw [e]
    rcases List.mem_cons.mp h with h | h
    · subst h
      split <;> omega
    · have := maxI_le h
      split <;> omega
theorem minI_mem : ∀ {l : List Int}, l ≠ [] → minI l ∈ l
  | [], h => absurd rfl h
  | [n], _ => by simp [minI]
  | n :: m :: r, _ => by
    have ih := minI_mem (l := m :: r) (by simp)
    show (if minI (m :: r) < n then minI (m :: r) else n) ∈ _
    split
    · exact List.mem_cons_of_mem _ ih
    · exact List.mem_cons_self
theorem minI_le : ∀ {l : List Int} {k : Int}, k ∈ l → minI l ≤ k
  | [], k, h => by cases h
  | [n], k, h => by
    have : k = n := by simpa using h
    rw [this]
    exact Int.le_refl _
  | n :: m :: r, k, h => by
    have e : minI (n :: m :: r) = (if minI (m :: r) < n then minI (m :: r) else n) := rfl
    rw [e]
    rcases List.mem_cons.mp h with h | h
    · subst h
      split <;> omega
    · have := minI_le h
      split <;> omega
def rMaxD (K : PySem.W.Frag) : List V → List V → Hp → VK → Prop := fun vs zs H Q => ∃ (a : Addr) (ns : List Int) (d : V), vs = [.ref a] ∧ zs = [d] ∧ SqL K H a (ns.map V.int) ∧ Q (if ns = [] then d else .int (maxI ns)) H
def rMinD (K : PySem.W.Frag) : List V → List V → Hp → VK → Prop := fun vs zs H Q => ∃ (a : Addr) (ns : List Int) (d : V), vs = [.ref a] ∧ zs = [d] ∧ SqL K H a (ns.map V.int) ∧ Q (if ns = [] then d else .int (minI ns)) H
theorem size_of_nums {xs : Array (Int × Tok)} {ns : List Int} (e : xs.toList.map (·.1) = ns) : xs.size = ns.length := by
  rw [← e, List.length_map, Array.length_toList]
theorem cr_maxD (hc : X.calm = true) : CallRK X (.builtin "max") [Str.ofString "default"] (rMaxD X.K) := by
  intro pins s σ H vs zs us ws Q I r r' h
  obtain ⟨a, ns, d, rfl, rfl, hs, q⟩ := h
  obtain ⟨its, rv, hl, _⟩ := I.list hs
  obtain ⟨u, rfl, ru⟩ := vals1 r'
  rw [Vals.ref1 r]
  have hi := rv.ints
  obtain ⟨xs, e⟩ := hi.allInts.items
  have hn : numsOf (intItems xs).toList = ns := by rw [← e]; exact hi.numsOf
  rw [nums_intItems] at hn
  have li := hl.isList
  rw [e] at li
  refine PySem.LhM.call_maxD (I.ok.hd hc) li fun v h' tk hv hk => ?_
  have J : Inv X pins σ H { s with heap := h', toks := tk } := I.kept hk
  by_cases z : ns = []
  · rw [if_pos z] at q
    have : xs.size = 0 := by rw [size_of_nums hn, z]; rfl
    rw [if_pos this] at hv
    subst hv
    exact ⟨d, H, J, ru, q⟩
  · rw [if_neg z] at q
    have hp : 0 < ns.length := List.length_pos_iff.mpr z
    have : xs.size ≠ 0 := by rw [size_of_nums hn]; omega
    rw [if_neg this] at hv
    obtain ⟨t, rfl⟩ := intItems_at hv
    obtain ⟨h1, h2⟩ := argBest_gt (numAt xs) (xs.size - 1)
    have m1 : numAt xs (argBest (fun i j => decide (numAt xs i > numAt xs j)) (xs.size - 1)) ∈ ns := by
      rw [← hn, numAt_eq]
      exact PySem.getD_mem (by rw [List.length_map, Array.length_toList]; omega)
    have m2 : ∀ k ∈ ns, k ≤ numAt xs (argBest (fun i j => decide (numAt xs i > numAt xs j)) (xs.size - 1)) := fun k hk => by
      rw [← hn] at hk
      obtain ⟨j, hj, rfl⟩ := mem_getD hk
      rw [List.length_map, Array.length_toList] at hj
      rw [← numAt_eq]
      exact h2 j (by omega)
    have e2 : numAt xs (argBest (fun i j => decide (numAt xs i > numAt xs j)) (xs.size - 1)) = maxI ns := by
      have := maxI_le m1
      have := m2 _ (maxI_mem z)
      omega
    rw [← e2] at q
    exact ⟨.int _, H, J, ⟨t, rfl⟩, q⟩
theorem cr_minD (hc : X.calm = true) : CallRK X (.builtin "min") [Str.ofString "default"] (rMinD X.K) := by
  intro pins s σ H vs zs us ws Q I r r' h
  obtain ⟨a, ns, d, rfl, rfl, hs, q⟩ := h
  obtain ⟨its, rv, hl, _⟩ := I.list hs
  obtain ⟨u, rfl, ru⟩ := vals1 r'
  rw [Vals.ref1 r]
  have hi := rv.ints
  obtain ⟨xs, e⟩ := hi.allInts.items
  have hn : numsOf (intItems xs).toList = ns := by rw [← e]; exact hi.numsOf
  rw [nums_intItems] at hn
  have li := hl.isList
  rw [e] at li
  refine PySem.LhM.call_minD (I.ok.hd hc) li fun v h' tk hv hk => ?_
  have J : Inv X pins σ H { s with heap := h', toks := tk } := I.kept hk
  by_cases z : ns = []
  · rw [if_pos z] at q
    have : xs.size = 0 := by rw [size_of_nums hn, z]; rfl
    rw [if_pos this] at hv
    subst hv
    exact ⟨d, H, J, ru, q⟩
  · rw [if_neg z] at q
    have hp : 0 < ns.length := List.length_pos_iff.mpr z
    have : xs.size ≠ 0 := by rw [size_of_nums hn]; omega
    rw [if_neg this] at hv
    obtain ⟨t, rfl⟩ := intItems_at hv
    obtain ⟨h1, h2⟩ := argBest_lt (numAt xs) (xs.size - 1)
    have m1 : numAt xs (argBest (fun i j => decide (numAt xs i < numAt xs j)) (xs.size - 1)) ∈ ns := by
      rw [← hn, numAt_eq]
      exact PySem.getD_mem (by rw [List.length_map, Array.length_toList]; omega)
    have m2 : ∀ k ∈ ns, numAt xs (argBest (fun i j => decide (numAt xs i < numAt xs j)) (xs.size - 1)) ≤ k := fun k hk => by
      rw [← hn] at hk
      obtain ⟨j, hj, rfl⟩ := mem_getD hk
      rw [List.length_map, Array.length_toList] at hj
      rw [← numAt_eq]
      exact h2 j (by omega)
    have e2 : numAt xs (argBest (fun i j => decide (numAt xs i < numAt xs j)) (xs.size - 1)) = minI ns := by
      have := minI_le m1
      have := m2 _ (minI_mem z)
      omega
    rw [← e2] at q
    exact ⟨.int _, H, J, ⟨t, rfl⟩, q⟩
end

/-! ### on data -/
section
variable {K : PySem.W.Frag} {w : World} {Γ : List En} {ta tb te tc : TE} {t u : TT} {d a b c : D} {ds cs : List D} {tl tr tk : TA}
theorem ev_cbk {f : List V → List V → Hp → VK → Prop} {es : List D} (h : EvA K w tr Γ ds) (h2 : EvA K w tk Γ es)
    (hr : ∀ G H vs zs, Ex G H → BeAll K w G vs ds → BeAll K w G zs es → ∀ Q : VK, (∀ v G2 H2, Grow G G2 H H2 → Be K w G2 v c → Q v H2) → f vs zs H Q) : EvD K w (tCKw f tr tk) Γ c := fun σ G H S Q q =>
  h σ G H S _ fun vs G1 H1 g1 b1 => h2 σ G1 H1 (S.grow g1) _ fun zs G2 H2 g2 b2 => hr G2 H2 vs zs g2.s (b1.up g2.k) b2 Q fun v G3 H3 g3 b3 => q v G3 H3 ((g1.trans g2).trans g3) b3
theorem ev_maxD {ns : List Int} (h : EvD K w te Γ (Li ns)) (h2 : EvD K w tb Γ d) : EvD K w (tCKw (rMaxD K) (tCons te tNil) (tCons tb tNil)) Γ (if ns = [] then d else .int (maxI ns)) :=
  ev_cbk (ea_cons h ea_nil) (ea_cons h2 ea_nil) fun G H vs zs e b1 b2 Q q => by
    obtain ⟨v, rfl, hv⟩ := be1 b1
    obtain ⟨z, rfl, hz⟩ := be1 b2
    cases hv with
    | lst a1 b1 =>
      have := b1.ints
      subst this
      refine ⟨_, ns, z, rfl, rfl, SqL.of (e _ _ a1), ?_⟩
      by_cases hn : ns = []
      · rw [if_pos hn] at q ⊢
        exact q z G H (Grow.refl e) hz
      · rw [if_neg hn] at q ⊢
        exact q _ G H (Grow.refl e) (.int _)
theorem ev_minD {ns : List Int} (h : EvD K w te Γ (Li ns)) (h2 : EvD K w tb Γ d) : EvD K w (tCKw (rMinD K) (tCons te tNil) (tCons tb tNil)) Γ (if ns = [] then d else .int (minI ns)) :=
  ev_cbk (ea_cons h ea_nil) (ea_cons h2 ea_nil) fun G H vs zs e b1 b2 Q q => by
    obtain ⟨v, rfl, hv⟩ := be1 b1
    obtain ⟨z, rfl, hz⟩ := be1 b2
    cases hv with
    | lst a1 b1 =>
      have := b1.ints
      subst this
      refine ⟨_, ns, z, rfl, rfl, SqL.of (e _ _ a1), ?_⟩
      by_cases hn : ns = []
      · rw [if_pos hn] at q ⊢
        exact q z G H (Grow.refl e) hz
      · rw [if_neg hn] at q ⊢
        exact q _ G H (Grow.refl e) (.int _)
theorem cd_sum {ns : List Int} : CD K w (rSum K) [Li ns] (.int ns.sum) := fun G H vs e h Q q => by
  obtain ⟨v, rfl, hb⟩ := be1 h
  cases hb with
  | lst a1 b1 =>
    have := b1.ints
    subst this
    exact ⟨_, ns, rfl, SqL.of (e _ _ a1), q _ G H (Grow.refl e) (.int _)⟩
theorem cd_sumS {ns : List Int} : CD K w (rSum K) [.scr ns] (.int ns.sum) := fun G H vs e h Q q => by
  obtain ⟨v, rfl, hb⟩ := be1 h
  cases hb with
  | scr a1 => exact ⟨_, ns, rfl, ex_l e a1, q _ G H (Grow.refl e) (.int _)⟩
theorem cd_all {bs : List Bool} : CD K w (rAll K) [.lst (bs.map D.bl)] (.bl (bs.all id)) := fun G H vs e h Q q => by
  obtain ⟨v, rfl, hb⟩ := be1 h
  cases hb with
  | lst a1 b1 =>
    have := b1.bls
    subst this
    exact ⟨_, bs, rfl, SqL.of (e _ _ a1), q _ G H (Grow.refl e) (.bl _)⟩
theorem cd_any {bs : List Bool} : CD K w (rAny K) [.lst (bs.map D.bl)] (.bl (bs.any id)) := fun G H vs e h Q q => by
  obtain ⟨v, rfl, hb⟩ := be1 h
  cases hb with
  | lst a1 b1 =>
    have := b1.bls
    subst this
    exact ⟨_, bs, rfl, SqL.of (e _ _ a1), q _ G H (Grow.refl e) (.bl _)⟩
theorem cd_set {ns : List Int} (hz : ns.length ≤ 4000) : CD K w (rSetL K w) [Li ns] (.set ns) := fun G H vs e h Q q => by
  obtain ⟨v, rfl, hb⟩ := be1 h
  cases hb with
  | lst a1 b1 =>
    have := b1.ints
    subst this
    exact ⟨_, ns, rfl, SqL.of (e _ _ a1), hz, fun p hp => q _ _ _ (Grow.new e hp _) (.set upd_same)⟩
theorem cd_lenSet {ns : List Int} (hz : ns.length ≤ 4000) : CD K w (rLenA K w) [.set ns] (.int (cnt ns)) := fun G H vs e h Q q => by
  obtain ⟨v, rfl, hb⟩ := be1 h
  cases hb with
  | set a1 => exact .inr ⟨_, _, _, rfl, e _ _ a1, Nat.le_trans (cnt_le ns) hz, q _ G H (Grow.refl e) (.int _)⟩
theorem cd_len : CD K w (rLenA K w) [.lst ds] (.int ds.length) := fun G H vs e h Q q => .inl (cd_lenL G H vs e h Q q)
theorem cd_lenTup : CD K w (rLenA K w) [.tup ds] (.int ds.length) := fun G H vs e h Q q => .inl (cd_lenT G H vs e h Q q)
theorem cd_lenScr {ns : List Int} : CD K w (rLenA K w) [.scr ns] (.int ns.length) := fun G H vs e h Q q => .inl (cd_lenS G H vs e h Q q)
theorem cn_sorted {ns : List Int} (hz : ns.length < 64) : CN K w (rSortedA K w) [.set ns] ((srtU ns).map D.int) := fun G H vs e h Q q => by
  obtain ⟨v, rfl, hb⟩ := be1 h
  cases hb with
  | set a1 =>
    refine ⟨_, _, _, rfl, e _ _ a1, Nat.lt_of_le_of_lt (cnt_le ns) hz, fun ms p up hm hl hp => ?_⟩
    have : ms = srtU ns := up_ext up (srtU_up ns) fun k => by rw [hm k, srtU_mem]; simp
    subst this
    exact q p _ G _ (Grow.hid e hp _) hp (Evl.fresh_back e hp) upd_same (BeAll.ofInts _)
/-- list(x) -/
def rListC (K : PySem.W.Frag) : List V → Hp → VK → Prop := fun xs H Q => ∃ p ys, xs = [.ref p] ∧ (SqL K H p ys ∨ SqT K H p ys) ∧ ∀ l, H l = none → Q (.ref l) (upd H l (.lst ys))
theorem call_listC {X : Cx} : CallR X (.type "list") (rListC X.K) := call_list_of
theorem cn_list : CN K w (rListC K) [.lst ds] ds := fun G H vs e h Q q => by
  obtain ⟨v, rfl, hb⟩ := be1 h
  cases hb with
  | lst a1 b1 => exact ⟨_, _, rfl, .inl (SqL.of (e _ _ a1)), fun l hl => q l _ G _ (Grow.hid e hl _) hl (Evl.fresh_back e hl) upd_same b1⟩
theorem cn_listT : CN K w (rListC K) [.tup ds] ds := fun G H vs e h Q q => by
  obtain ⟨v, rfl, hb⟩ := be1 h
  cases hb with
  | tup a1 b1 => exact ⟨_, _, rfl, .inr (SqT.of (e _ _ a1)), fun l hl => q l _ G _ (Grow.hid e hl _) hl (Evl.fresh_back e hl) upd_same b1⟩
/-- list(range(n)) -/
def upI (n : Int) : List Int := (List.range n.toNat).map fun i : Nat => (i : Int)
theorem en_listRg {n : Int} (h : EvD K w te Γ (.int n)) (h0 : 0 ≤ n) (h1 : n ≤ 100000) : EvN K w (tLstRg (tRg1 te)) Γ ((upI n).map D.int) := fun σ G H S Q q => h σ G H S _ fun v G1 H1 g1 b1 => by
  cases b1
  refine ⟨n, rfl, RgOk.of_le (Int.le_refl 0) (by omega) (by omega) h0, fun l hl => ?_⟩
  have e : rgV 0 n = (upI n).map V.int := by
    unfold rgV upI
    rw [List.map_map, Int.sub_zero]
    exact List.map_congr_left fun i _ => by
      show V.int (0 + (i : Int)) = V.int (i : Int)
      rw [Int.zero_add]
  rw [e]
  exact q l _ G1 _ (g1.trans (Grow.hid g1.s hl _)) (Evl.fresh_back g1.r hl) (Evl.fresh_back g1.s hl) upd_same (BeAll.ofInts _)
end
end Lh
set_option Elab.async false
set_option linter.all false
set_option maxRecDepth 100000
set_option maxHeartbeats 4000000
/-! Lh: what is walked, comprehensions, statements -/
namespace Lh
open PySem L2
open Evl (Ex ex_l ex_t sz_of sz_lt)

/-! ### what is walked -/
structure Src (K : PySem.W.Frag) (w : World) (J : It) (G0 : Hp) (items : List D) : Prop where
  go : ∀ i G H, Ex G0 G → Ex G H → i < items.length → J.go i H
  yld : ∀ i G H x H', Ex G0 G → Ex G H → i < items.length → J.yld i H x H' → ∃ d G', items[i]? = some d ∧ Grow G G' H H' ∧ Be K w G' x d
  stop : ∀ i G H, Ex G0 G → Ex G H → items.length ≤ i → J.stop i H
def EvI (K : PySem.W.Frag) (w : World) (wi : TI) (Γ : List En) (items : List D) : Prop :=
  ∀ σ G H, Stt K w Γ σ G H → ∀ R : It → Hp → Prop, (∀ J G2 H2, Grow G G2 H H2 → Src K w J G2 items → R J H2) → wi σ H R
section
variable {K : PySem.W.Frag} {w : World} {Γ : List En} {te tl : TE} {ds : List D} {ta : TA}
theorem src_list {G0 : Hp} {a : Addr} {xs : List V} (ha : G0 a = some (.lst xs)) (hb : BeAll K w G0 xs ds) : Src K w (Itl K a) G0 ds := by
  refine ⟨fun i G H e1 e2 hi => ?_, fun i G H x H' e1 e2 hi y => ?_, fun i G H e1 e2 hi => ?_⟩
  · have hi2 : i < xs.length := by rw [hb.length]; exact hi
    exact ⟨xs, xs[i], SqL.of (e2 _ _ (e1 _ _ ha)), List.getElem?_eq_getElem hi2⟩
  · obtain ⟨rfl, y⟩ := y
    obtain ⟨d, hd, hbe⟩ := hb.get (y xs (SqL.of (e2 _ _ (e1 _ _ ha))))
    exact ⟨d, G, hd, Grow.refl e2, hbe.up e1⟩
  · exact ⟨xs, SqL.of (e2 _ _ (e1 _ _ ha)), by rw [hb.length]; exact hi⟩
theorem src_tup {G0 : Hp} {a : Addr} {xs : List V} (ha : G0 a = some (.tup xs)) (hb : BeAll K w G0 xs ds) : Src K w (Itt K a) G0 ds := by
  refine ⟨fun i G H e1 e2 hi => ?_, fun i G H x H' e1 e2 hi y => ?_, fun i G H e1 e2 hi => ?_⟩
  · have hi2 : i < xs.length := by rw [hb.length]; exact hi
    exact ⟨xs, xs[i], SqT.of (e2 _ _ (e1 _ _ ha)), List.getElem?_eq_getElem hi2⟩
  · obtain ⟨rfl, y⟩ := y
    obtain ⟨d, hd, hbe⟩ := hb.get (y xs (SqT.of (e2 _ _ (e1 _ _ ha))))
    exact ⟨d, G, hd, Grow.refl e2, hbe.up e1⟩
  · exact ⟨xs, SqT.of (e2 _ _ (e1 _ _ ha)), by rw [hb.length]; exact hi⟩
theorem src_scr {G0 : Hp} {a : Addr} {ns : List Int} (ha : SqL K G0 a (ns.map V.int)) : Src K w (Itl K a) G0 (ns.map D.int) := by
  have sq : ∀ G H, Ex G0 G → Ex G H → SqL K H a (ns.map V.int) := fun G H e1 e2 => ex_l e2 (ex_l e1 ha)
  refine ⟨fun i G H e1 e2 hi => ?_, fun i G H x H' e1 e2 hi y => ?_, fun i G H e1 e2 hi => ?_⟩
  · have hi2 : i < ns.length := by simpa using hi
    exact ⟨_, .int ns[i], sq G H e1 e2, by rw [List.getElem?_map, List.getElem?_eq_getElem hi2] <;> rfl⟩
  · obtain ⟨rfl, y⟩ := y
    obtain ⟨d, hd, hbe⟩ := (BeAll.ofInts (K := K) (w := w) (G := G) ns).get (y _ (sq G _ e1 e2))
    exact ⟨d, G, hd, Grow.refl e2, hbe⟩
  · exact ⟨_, sq G H e1 e2, by simpa using hi⟩
theorem upI_length (n : Int) : (upI n).length = n.toNat := by
  unfold upI
  rw [List.length_map, List.length_range]
theorem upI_get {n : Int} {i : Nat} (h : i < n.toNat) : (upI n)[i]? = some (i : Int) := by
  unfold upI
  rw [List.getElem?_map, List.getElem?_range h]
  rfl
theorem src_range {G0 : Hp} {n : Int} : Src K w (Itr 0 n.toNat) G0 ((upI n).map D.int) := by
  have l : ((upI n).map D.int).length = n.toNat := by rw [List.length_map, upI_length]
  refine ⟨fun i G H e1 e2 hi => ?_, fun i G H x H' e1 e2 hi y => ?_, fun i G H e1 e2 hi => ?_⟩
  · rw [l] at hi
    exact hi
  · rw [l] at hi
    obtain ⟨rfl, rfl⟩ := y
    refine ⟨.int (0 + i), G, ?_, Grow.refl e2, .int _⟩
    rw [List.getElem?_map, upI_get hi, Int.zero_add]
    rfl
  · rw [l] at hi
    exact hi
/-- pairs of the place and the item -/
def enumD (ds : List D) : List D := ds.zipIdx.map fun p => .tup [.int (p.2 : Nat), p.1]
theorem enumD_get {i : Nat} {d : D} (h : ds[i]? = some d) : (enumD ds)[i]? = some (.tup [.int (i : Nat), d]) := by
  unfold enumD
  rw [List.getElem?_map, List.getElem?_zipIdx, h]
  simp
theorem src_enum {G0 : Hp} {a : Addr} {xs : List V} (ha : G0 a = some (.lst xs)) (hb : BeAll K w G0 xs ds) : Src K w (Ite K a) G0 (enumD ds) := by
  have l : (enumD ds).length = ds.length := by unfold enumD; rw [List.length_map, List.length_zipIdx]
  refine ⟨fun i G H e1 e2 hi => ?_, fun i G H x H' e1 e2 hi y => ?_, fun i G H e1 e2 hi => ?_⟩
  · rw [l] at hi
    have hi2 : i < xs.length := by rw [hb.length]; exact hi
    exact ⟨xs, xs[i], SqL.of (e2 _ _ (e1 _ _ ha)), List.getElem?_eq_getElem hi2⟩
  · obtain ⟨T, x, rfl, hT, rfl, y⟩ := y
    obtain ⟨d, hd, hbe⟩ := hb.get (y xs (SqL.of (e2 _ _ (e1 _ _ ha))))
    exact ⟨_, _, enumD_get hd, Grow.new e2 hT _, .tup upd_same (.cons (.int _) (.cons (hbe.up (e1.trans (Ex.new (Evl.fresh_back e2 hT)))) .nil))⟩
  · rw [l] at hi
    exact ⟨xs, SqL.of (e2 _ _ (e1 _ _ ha)), by rw [hb.length]; exact hi⟩
def zipD (ds es : List D) : List D := (ds.zip es).map fun p => .tup [p.1, p.2]
theorem src_zip {es : List D} {G0 : Hp} {a b : Addr} {xs ys : List V} (ha : G0 a = some (.lst xs)) (hb : BeAll K w G0 xs ds) (ha' : G0 b = some (.lst ys)) (hb' : BeAll K w G0 ys es) : Src K w (Itz K a b) G0 (zipD ds es) := by
  have l : (zipD ds es).length = min ds.length es.length := by unfold zipD; rw [List.length_map, List.length_zip]
  refine ⟨fun i G H e1 e2 hi => ?_, fun i G H x H' e1 e2 hi y => ?_, fun i G H e1 e2 hi => ?_⟩
  · rw [l] at hi
    have h1 : i < xs.length := by rw [hb.length]; omega
    have h2 : i < ys.length := by rw [hb'.length]; omega
    exact ⟨xs, ys, xs[i], ys[i], SqL.of (e2 _ _ (e1 _ _ ha)), SqL.of (e2 _ _ (e1 _ _ ha')), List.getElem?_eq_getElem h1, List.getElem?_eq_getElem h2⟩
  · obtain ⟨T, x, z, rfl, hT, rfl, y1, y2⟩ := y
    obtain ⟨d, hd, hbe⟩ := hb.get (y1 xs (SqL.of (e2 _ _ (e1 _ _ ha))))
    obtain ⟨d', hd', hbe'⟩ := hb'.get (y2 ys (SqL.of (e2 _ _ (e1 _ _ ha'))))
    refine ⟨.tup [d, d'], _, ?_, Grow.new e2 hT _, .tup upd_same (.cons (hbe.up (e1.trans (Ex.new (Evl.fresh_back e2 hT)))) (.cons (hbe'.up (e1.trans (Ex.new (Evl.fresh_back e2 hT)))) .nil))⟩
    unfold zipD
    rw [List.getElem?_map, List.getElem?_zip_eq_some.mpr (show ds[i]? = some (d, d').1 ∧ es[i]? = some (d, d').2 from ⟨hd, hd'⟩)]
    rfl
  · rw [l] at hi
    refine ⟨xs, ys, SqL.of (e2 _ _ (e1 _ _ ha)), SqL.of (e2 _ _ (e1 _ _ ha')), ?_⟩
    rw [hb.length, hb'.length]
    omega
theorem ei_list (h : EvD K w tl Γ (.lst ds)) : EvI K w (iList K tl) Γ ds := fun σ G H S R q => h σ G H S _ fun v G2 H2 g hb => by
  cases hb with
  | lst a1 b1 => exact ⟨_, rfl, ⟨_, SqL.of (g.s _ _ a1)⟩, q _ G2 H2 g (src_list a1 b1)⟩
theorem ei_scr {ns : List Int} (h : EvD K w tl Γ (.scr ns)) : EvI K w (iList K tl) Γ (ns.map D.int) := fun σ G H S R q => h σ G H S _ fun v G2 H2 g hb => by
  cases hb with
  | scr a1 => exact ⟨_, rfl, ⟨_, ex_l g.s a1⟩, q _ G2 H2 g (src_scr a1)⟩
theorem ei_tup (h : EvD K w tl Γ (.tup ds)) : EvI K w (iTup K tl) Γ ds := fun σ G H S R q => h σ G H S _ fun v G2 H2 g hb => by
  cases hb with
  | tup a1 b1 => exact ⟨_, rfl, ⟨_, SqT.of (g.s _ _ a1)⟩, q _ G2 H2 g (src_tup a1 b1)⟩
theorem ei_range {n : Int} (h : EvD K w tl Γ (.int n)) (h1 : -(2 ^ 62) ≤ n) (h2 : n < 2 ^ 62) : EvI K w (iRng1 (tCons tl tNil)) Γ ((upI n).map D.int) := fun σ G H S R q => h σ G H S _ fun v G2 H2 g hb => by
  cases hb
  exact ⟨n, rfl, h1, h2, q _ G2 H2 g src_range⟩
theorem ei_enum (h : EvD K w tl Γ (.lst ds)) : EvI K w (iEnum K (tCons tl tNil)) Γ (enumD ds) := fun σ G H S R q => h σ G H S _ fun v G2 H2 g hb => by
  cases hb with
  | lst a1 b1 => exact ⟨_, _, rfl, SqL.of (g.s _ _ a1), q _ G2 H2 g (src_enum a1 b1)⟩
theorem ei_zip {tm : TE} {es : List D} (h : EvD K w tl Γ (.lst ds)) (h' : EvD K w tm Γ (.lst es)) : EvI K w (iZip K (tCons tl (tCons tm tNil))) Γ (zipD ds es) := fun σ G H S R q => h σ G H S _ fun v G2 H2 g hb => h' σ G2 H2 (S.grow g) _ fun v' G3 H3 g3 hb' => by
  have hb := hb.up g3.k
  cases hb with
  | lst a1 b1 =>
    cases hb' with
    | lst a2 b2 => exact ⟨_, _, _, _, rfl, SqL.of (g3.s _ _ a1), SqL.of (g3.s _ _ a2), q _ G3 H3 (g.trans g3) (src_zip a1 b1 a2 b2)⟩
end

/-! ### owned places -/
def own (Γ : List En) (σ : L2.St) (a : Addr) : Prop := ∃ (i : Nat) (ds : List D), Γ[i]? = some (En.ow ds) ∧ σ[i]? = some (some (V.ref a))

/-! ### targets -/
def Tgt (K : PySem.W.Frag) (w : World) (g : TG) (Γ : List En) (d : D) (Γ' : List En) : Prop :=
  ∀ σ G H x, Stt K w Γ σ G H → Be K w G x d → ∀ Q : L2.St → Hp → Prop, (∀ σ2, Stt K w Γ' σ2 G H → (∀ a, own Γ' σ2 a → own Γ σ a) → (∀ vs : List Nat, (∀ i, Γ'[i]? ≠ Γ[i]? → i ∈ vs) → True) → Q σ2 H) → g x σ H Q
section
variable {K : PySem.W.Frag} {w : World} {Γ Γ' : List En} {d : D}
theorem own_set {σ : L2.St} {i : Nat} {e : En} {x : Option V} {a : Addr} (he : ∀ ds, e ≠ .ow ds) (h : own (Γ.set i e) (σ.set i x) a) : own Γ σ a := by
  obtain ⟨j, ds, h1, h2⟩ := h
  have ne : i ≠ j := fun q => by
    subst q
    by_cases hl : i < Γ.length
    · rw [List.getElem?_set_self hl] at h1
      cases h1
      exact he ds rfl
    · rw [List.getElem?_eq_none (by simpa using hl)] at h1
      cases h1
  rw [List.getElem?_set_ne ne] at h1 h2
  exact ⟨j, ds, h1, h2⟩
end

/-! ### a comprehension's own slots -/
def wipeE (Γ : List En) : List Nat → List En
  | [] => Γ
  | v :: vs => (wipeE Γ vs).set v .un
section
variable {K : PySem.W.Frag} {w : World} {Γ Γ' : List En} {σ : L2.St} {G H : Hp}
theorem Stt.wipe (S : Stt K w Γ σ G H) : ∀ vs : List Nat, Stt K w (wipeE Γ vs) (L2.wipe σ vs) G H
  | [] => S
  | v :: vs => (Stt.wipe S vs).drop
theorem own_wipe {a : Addr} : ∀ {vs : List Nat}, own (wipeE Γ vs) (L2.wipe σ vs) a → own Γ σ a
  | [], h => h
  | v :: vs, h => own_wipe (vs := vs) (own_set (fun ds => by intro z; cases z) h)
theorem wipe_set {i : Nat} {x : Option V} : ∀ {vs : List Nat}, i ∈ vs → L2.wipe (σ.set i x) vs = L2.wipe σ vs
  | [], h => by cases h
  | v :: vs, h => by
    show (L2.wipe (σ.set i x) vs).set v none = (L2.wipe σ vs).set v none
    by_cases q : i ∈ vs
    · rw [wipe_set q]
    · have e : i = v := by
        rcases List.mem_cons.mp h with e | e
        · exact e
        · exact absurd e q
      subst e
      have : ∀ us : List Nat, i ∉ us → L2.wipe (σ.set i x) us = (L2.wipe σ us).set i x := by
        intro us
        induction us with
        | nil => intro _; rfl
        | cons u us ih =>
          intro hu
          have h1 : i ≠ u := fun e => hu (by rw [e]; exact List.mem_cons_self)
          show (L2.wipe (σ.set i x) us).set u none = ((L2.wipe σ us).set u none).set i x
          rw [ih fun z => hu (List.mem_cons_of_mem _ z), List.set_comm _ _ h1]
      rw [this vs q, List.set_set]
theorem wipe_wipe : ∀ (vs us : List Nat), (∀ v ∈ us, v ∈ vs) → L2.wipe (L2.wipe σ us) vs = L2.wipe σ vs
  | vs, [], _ => rfl
  | vs, u :: us, h => by
    show L2.wipe ((L2.wipe σ us).set u none) vs = _
    rw [wipe_set (h u List.mem_cons_self)]
    exact wipe_wipe vs us fun v hv => h v (List.mem_cons_of_mem _ hv)
/-- the target within a comprehension -/
def TgtC (K : PySem.W.Frag) (w : World) (g : TG) (vs : List Nat) (Γ : List En) (d : D) (Γ' : List En) : Prop :=
  ∀ σ G H x, Stt K w Γ σ G H → L2.wipe σ vs = σ → Be K w G x d → ∀ Q : L2.St → Hp → Prop, (∀ σ2, Stt K w Γ' σ2 G H → L2.wipe σ2 vs = σ → Q σ2 H) → g x σ H Q
theorem tc_name {i : Nat} {vs : List Nat} {d : D} (hi : i ∈ vs) : TgtC K w (gName i) vs Γ d (Γ.set i (.im d)) := fun σ G H x S hw hb Q q =>
  q _ (S.put hb) (by rw [wipe_set hi, hw])
theorem tc_pair {i j : Nat} {vs : List Nat} {d e : D} (hi : i ∈ vs) (hj : j ∈ vs) : TgtC K w (gTup K 2 (gCons (gName i) (gCons (gName j) gNil))) vs Γ (.tup [d, e]) ((Γ.set i (.im d)).set j (.im e)) := fun σ G H x S hw hb Q q => by
  cases hb with
  | tup a1 b1 =>
    obtain ⟨x, y, rfl, h1, h2⟩ := be2 b1
    refine ⟨_, _, rfl, SqT.of (S.ex _ _ a1), rfl, x, [y], rfl, y, [], rfl, rfl, q _ ((S.put h1).put h2) ?_⟩
    rw [wipe_set hj, wipe_set hi, hw]
end

/-! ### a comprehension -/
section
variable {K : PySem.W.Frag} {w : World} {Γ : List En}
theorem en_lc {α : Type} {wi : TI} {gt : TG} {tt : TT} {te : TE} {vs : List Nat} (xs : List α) (f : α → D) (p : α → Bool) (g : α → D) (Γ' : α → List En)
    (hs : EvI K w wi Γ (xs.map f)) (ht : ∀ x ∈ xs, TgtC K w gt vs (wipeE Γ vs) (f x) (Γ' x)) (hp : ∀ x ∈ xs, EvT K w tt (Γ' x) (p x)) (he : ∀ x ∈ xs, p x = true → EvD K w te (Γ' x) (g x)) (hz : xs.length ≤ 1000000) :
    EvN K w (tLc wi gt tt te vs) Γ ((xs.filter p).map g) := fun σ G H S Q q => hs σ G H S _ fun J G1 H1 g1 R Dd hD => by
  have S1 := S.grow g1
  have l : (xs.map f).length = xs.length := List.length_map ..
  have gD : G1 Dd = none := Evl.fresh_back g1.s hD
  refine ⟨fun i m Hc => m + i = xs.length ∧ ∃ Gc ys, Grow G1 Gc H1 Hc ∧ Gc Dd = none ∧ Hc Dd = some (.lst ys) ∧ BeAll K w Gc ys (((xs.take i).filter p).map g), ⟨xs.length, by omega, G1, [], Grow.hid g1.s hD _, gD, upd_same, .nil⟩, ?_⟩
  rintro i m Hc ⟨em, Gc, ys, gc, gcD, hcD, hb⟩
  by_cases hi : i < xs.length
  · have hi' : i < (xs.map f).length := by rw [l]; exact hi
    refine .inr ⟨R.go i Gc Hc gc.k gc.s hi', fun H' => ∃ Gd zs, Grow G1 Gd H1 H' ∧ Gd Dd = none ∧ H' Dd = some (.lst zs) ∧ BeAll K w Gd zs (((xs.take (i + 1)).filter p).map g), ?_, ?_⟩
    · rintro H' ⟨Gd, zs, h1, h2, h3, h4⟩
      exact ⟨m - 1, by omega, by omega, Gd, zs, h1, h2, h3, h4⟩
    · intro x H' hy
      obtain ⟨d, Gd, ed, gd, hbx⟩ := R.yld i Gc Hc x H' gc.k gc.s hi' hy
      have ed2 : d = f xs[i] := by
        rw [List.getElem?_map, List.getElem?_eq_getElem hi] at ed
        exact (Option.some.inj ed).symm
      subst ed2
      have hm : xs[i] ∈ xs := List.getElem_mem hi
      have tk : ((xs.take (i + 1)).filter p).map g = ((xs.take i).filter p).map g ++ (if p xs[i] = true then [g xs[i]] else []) := by
        rw [List.take_add_one, List.getElem?_eq_getElem hi, List.filter_append, List.map_append]
        congr 1
        cases hpx : p xs[i] with
        | true => simp [hpx]
        | false => simp [hpx]
      have Sw : Stt K w (wipeE Γ vs) (L2.wipe σ vs) Gd H' := ((S1.grow gc).grow gd).wipe vs
      refine ht xs[i] hm (L2.wipe σ vs) Gd H' x Sw (wipe_wipe vs vs fun v hv => hv) hbx _ fun σ2 S2 hw2 => ⟨hw2, ?_⟩
      have gg := gc.trans gd
      refine hp xs[i] hm σ2 Gd H' S2 _ fun G3 H3 g3 => ?_
      cases hpx : p xs[i] with
      | true =>
        rw [if_pos rfl]
        rw [hpx] at tk
        rw [if_pos rfl] at tk
        refine he xs[i] hm hpx σ2 G3 H3 (S2.grow g3) _ fun v G4 H4 g4 b4 => ?_
        have g5 := (gd.trans g3).trans g4
        have hd4 := g5.r _ _ hcD
        have gd4 : G4 Dd = none := g5.f _ (ne_none hcD) gcD
        refine ⟨ys, hd4, ?_, G4, ys ++ [v], ?_, gd4, upd_same, ?_⟩
        · have z1 : ys.length ≤ xs.length := by
            rw [hb.length, List.length_map]
            exact Nat.le_trans (List.length_filter_le _ _) (by rw [List.length_take]; omega)
          exact Nat.lt_of_le_of_lt (Nat.le_trans z1 hz) (by decide)
        · have g6 := gc.trans g5
          refine ⟨g6.k, fun a o h => ?_, fun a o h => ?_, g6.f⟩
          · rw [upd_ne (ne_of_none h hD)]
            exact g6.r a o h
          · rw [upd_ne (ne_of_none h gd4)]
            exact g6.s a o h
        · rw [tk]
          exact (hb.up g5.k).append (.cons b4 .nil)
      | false =>
        rw [if_neg Bool.false_ne_true]
        rw [hpx] at tk
        rw [if_neg Bool.false_ne_true, List.append_nil] at tk
        have g5 := gd.trans g3
        exact ⟨G3, ys, gc.trans g5, g5.f _ (ne_none hcD) gcD, g5.r _ _ hcD, by rw [tk]; exact hb.up g5.k⟩
  · have hi' : (xs.map f).length ≤ i := by rw [l]; omega
    refine .inl ⟨R.stop i Gc Hc gc.k gc.s hi', ?_⟩
    rw [List.take_of_length_le (by omega)] at hb
    exact q Dd ys Gc Hc (g1.trans gc) (Evl.fresh_back g1.r hD) gcD hcD hb
theorem et_yes : EvT K w tYes Γ true := fun σ G H S Q q => q G H (Grow.refl S.ex)
theorem filter_tt {α : Type} : ∀ xs : List α, xs.filter (fun _ => true) = xs
  | [] => rfl
  | x :: xs => by
    rw [List.filter_cons_of_pos rfl, filter_tt xs]
/-- without a test -/
theorem en_lcm {α : Type} {wi : TI} {gt : TG} {te : TE} {vs : List Nat} (xs : List α) (f : α → D) (g : α → D) (Γ' : α → List En)
    (hs : EvI K w wi Γ (xs.map f)) (ht : ∀ x ∈ xs, TgtC K w gt vs (wipeE Γ vs) (f x) (Γ' x)) (he : ∀ x ∈ xs, EvD K w te (Γ' x) (g x)) (hz : xs.length ≤ 1000000) :
    EvN K w (tLc wi gt tYes te vs) Γ (xs.map g) :=
  (en_lc xs f (fun _ => true) g Γ' hs ht (fun _ _ => et_yes) (fun x hx _ => he x hx) hz).to (by rw [filter_tt])
end
end Lh
set_option Elab.async false
set_option linter.all false
set_option maxRecDepth 100000
set_option maxHeartbeats 4000000
/-! Lh: statements -/
namespace Lh
open PySem L2 PyProof.Rows
open Evl (Ex ex_l ex_t sz_of sz_lt)

structure GroS (Γ : List En) (σ : L2.St) (G G2 H H2 : Hp) : Prop where
  k : Ex G G2
  s : Ex G2 H2
  f : ∀ a, H a ≠ none → G a = none → ¬ own Γ σ a → G2 a = none
  r : ∀ a o, H a = some o → ¬ own Γ σ a → H2 a = some o
  d : ∀ a, H a ≠ none → H2 a ≠ none
inductive Out where
  | nx (Γ : List En)
  | rt (d : D)
  | rn (ds : List D)
/-- what is wanted at a statement's end -/
def Wish (K : PySem.W.Frag) (w : World) (Γ : List En) (σ : L2.St) (G H : Hp) (D : Ends) : Out → Prop
  | .nx Γ' => ∀ σ' G2 H2, GroS Γ σ G G2 H H2 → Stt K w Γ' σ' G2 H2 → (∀ a, own Γ' σ' a → own Γ σ a ∨ H a = none) → D.nx σ' H2
  | .rt d => ∀ v G2 H2, GroS Γ σ G G2 H H2 → Be K w G2 v d → D.rt v H2
  | .rn ds => ∀ p xs G2 H2, GroS Γ σ G G2 H H2 → (own Γ σ p ∨ H p = none) → G2 p = none → H2 p = some (.lst xs) → BeAll K w G2 xs ds → D.rt (.ref p) H2
def Sv (K : PySem.W.Frag) (w : World) (t : TS) (Γ : List En) (o : Out) : Prop :=
  ∀ σ G H (D : Ends), Stt K w Γ σ G H → Wish K w Γ σ G H D o → t D σ H

section
variable {K : PySem.W.Frag} {w : World} {Γ Γ' Γ2 : List En} {σ σ2 : L2.St} {G G2 G3 H H2 H3 : Hp} {t u : TS} {te : TE} {tt : TT} {d : D} {ds : List D} {o : Out}
theorem Grow.gs (g : Grow G G2 H H2) : GroS Γ σ G G2 H H2 := ⟨g.k, g.s, fun a h1 h2 _ => g.f a h1 h2, fun a o h _ => g.r a o h, fun a h z => by
  cases e : H a with
  | none => exact h e
  | some o =>
    rw [g.r a o e] at z
    cases z⟩
theorem GroS.refl (e : Ex G H) : GroS Γ σ G G H H := (Grow.refl e).gs
theorem GroS.trans (a : GroS Γ σ G G2 H H2) (b : GroS Γ2 σ2 G2 G3 H2 H3) (ho : ∀ a, own Γ2 σ2 a → own Γ σ a ∨ H a = none) : GroS Γ σ G G3 H H3 := by
  refine ⟨a.k.trans b.k, b.s, fun x hx hg hn => b.f x (a.d x hx) (a.f x hx hg hn) fun z => ?_, fun x o hx hn => b.r x o (a.r x o hx hn) fun z => ?_, fun x hx => b.d x (a.d x hx)⟩
  · rcases ho x z with q | q
    · exact hn q
    · exact hx q
  · rcases ho x z with q | q
    · exact hn q
    · rw [q] at hx
      cases hx
/-- where nothing is owned, all has stayed -/
theorem GroS.grow (a : GroS Γ σ G G2 H H2) (hn : ∀ x, ¬ own Γ σ x) : Grow G G2 H H2 := ⟨a.k, fun x o h => a.r x o h (hn x), a.s, fun x h1 h2 => a.f x h1 h2 (hn x)⟩

theorem Sv.to {o' : Out} (h : Sv K w t Γ o) (e : o = o') : Sv K w t Γ o' := e ▸ h
theorem wish_seq {D : Ends} (g : GroS Γ σ G G2 H H2) (ho : ∀ a, own Γ2 σ2 a → own Γ σ a ∨ H a = none) (q : Wish K w Γ σ G H D o) : Wish K w Γ2 σ2 G2 H2 D o := by
  cases o with
  | nx Γ' =>
    intro σ' G3 H3 g3 S3 o3
    refine q σ' G3 H3 (g.trans g3 ho) S3 fun a ha => ?_
    rcases o3 a ha with z | z
    · exact ho a z
    · cases e : H a with
      | none => exact .inr rfl
      | some x => exact absurd z (g.d a (by rw [e]; exact fun q => nomatch q))
  | rt d =>
    intro v G3 H3 g3 hb
    exact q v G3 H3 (g.trans g3 ho) hb
  | rn ds =>
    intro p xs G3 H3 g3 hp gp h3 hb
    refine q p xs G3 H3 (g.trans g3 ho) ?_ gp h3 hb
    rcases hp with z | z
    · exact ho p z
    · cases e : H p with
      | none => exact .inr rfl
      | some x => exact absurd z (g.d p (by rw [e]; exact fun q => nomatch q))
theorem sv_seq (h : Sv K w t Γ (.nx Γ2)) (h2 : Sv K w u Γ2 o) : Sv K w (tSeq t u) Γ o := fun σ G H D S q =>
  h σ G H { D with nx := u D } S fun σ' G2 H2 g S2 ho => h2 σ' G2 H2 D S2 (wish_seq g ho q)
theorem sv_seqR (h : Sv K w t Γ (.rt d)) : Sv K w (tSeq t u) Γ (.rt d) := fun σ G H D S q => h σ G H { D with nx := u D } S q
theorem sv_seqN (h : Sv K w t Γ (.rn ds)) : Sv K w (tSeq t u) Γ (.rn ds) := fun σ G H D S q => h σ G H { D with nx := u D } S q
theorem sv_next : Sv K w tNext Γ (.nx Γ) := fun σ G H D S q => q σ G H (GroS.refl S.ex) S fun a ha => .inl ha
/-! weakening the environment: slots forgotten -/
inductive Sub : List En → List En → Prop
  | nil : Sub [] []
  | same {e : En} {l l' : List En} : Sub l l' → Sub (e :: l) (e :: l')
  | un {e : En} {l l' : List En} : Sub l l' → Sub (e :: l) (.un :: l')
theorem Sub.refl : ∀ Γ : List En, Sub Γ Γ
  | [] => .nil
  | _ :: l => .same (Sub.refl l)
theorem Sub.get : ∀ {l l' : List En} {i : Nat} {e : En}, Sub l l' → l'[i]? = some e → e = .un ∨ l[i]? = some e
  | _, _, i, e, .nil, h => by simp at h
  | _, _, 0, e, .same _, h => by simp at h; subst h; exact .inr rfl
  | _, _, 0, e, .un _, h => by simp at h; subst h; exact .inl rfl
  | _, _, i + 1, e, .same s, h => by
    rcases Sub.get (i := i) s (by simpa using h) with z | z
    · exact .inl z
    · exact .inr (by simpa using z)
  | _, _, i + 1, e, .un s, h => by
    rcases Sub.get (i := i) s (by simpa using h) with z | z
    · exact .inl z
    · exact .inr (by simpa using z)
theorem Sub.length : ∀ {l l' : List En}, Sub l l' → l.length = l'.length
  | _, _, .nil => rfl
  | _, _, .same s => by simp [Sub.length s]
  | _, _, .un s => by simp [Sub.length s]
theorem Stt.sub (S : Stt K w Γ σ G H) (s : Sub Γ Γ') : Stt K w Γ' σ G H := by
  refine ⟨S.ex, by rw [S.len, s.length], fun i d e => ?_, fun i ds e => ?_, fun i j ds es p e1 e2 e3 e4 => ?_⟩
  · rcases s.get e with z | z
    · cases z
    · exact S.im i d z
  · rcases s.get e with z | z
    · cases z
    · exact S.ow i ds z
  · rcases s.get e1 with z | z
    · cases z
    · rcases s.get e2 with z2 | z2
      · cases z2
      · exact S.ap i j ds es p z z2 e3 e4
theorem own_sub {a : Addr} (s : Sub Γ Γ') (h : own Γ' σ a) : own Γ σ a := by
  obtain ⟨i, ds, h1, h2⟩ := h
  rcases s.get h1 with z | z
  · cases z
  · exact ⟨i, ds, z, h2⟩
theorem Sv.weak (h : Sv K w t Γ (.nx Γ2)) (s : Sub Γ2 Γ') : Sv K w t Γ (.nx Γ') := fun σ G H D S q =>
  h σ G H D S fun σ' G2 H2 g S2 ho => q σ' G2 H2 g (S2.sub s) fun a ha => ho a (own_sub s ha)
theorem Sv.pre (h : Sv K w t Γ' o) (s : Sub Γ Γ') : Sv K w t Γ o := fun σ G H D S q => h σ G H D (S.sub s) (by
  refine wish_seq (Γ := Γ) (σ := σ) (GroS.refl S.ex) (fun a ha => .inl (own_sub s ha)) q)

/-! assignments -/
theorem sv_asg {i : Nat} (h : EvD K w te Γ d) : Sv K w (tAsg te (gName i)) Γ (.nx (Γ.set i (.im d))) := fun σ G H D S q =>
  h σ G H S _ fun v G2 H2 g hb => q _ G2 H2 g.gs ((S.grow g).put hb) fun a ha => .inl (own_set (fun ds => by intro z; cases z) ha)
/-- a new list, owned -/
theorem Stt.putO (S : Stt K w Γ σ G H) {i : Nat} {p : Addr} {xs : List V} (hi : i < Γ.length) (hp : H p = some (.lst xs)) (gp : G p = none) (hb : BeAll K w G xs ds) (hn : ¬ own Γ σ p) : Stt K w (Γ.set i (.ow ds)) (σ.set i (some (.ref p))) G H := by
  have hs : i < σ.length := by rw [S.len]; exact hi
  have cs : ∀ (j : Nat) (e : En), (Γ.set i (.ow ds))[j]? = some e → (j = i ∧ e = .ow ds) ∨ (j ≠ i ∧ Γ[j]? = some e ∧ (σ.set i (some (V.ref p)))[j]? = σ[j]?) := fun j e h => by
    by_cases q : i = j
    · subst q
      rw [List.getElem?_set_self hi] at h
      exact .inl ⟨rfl, (Option.some.inj h).symm⟩
    · rw [List.getElem?_set_ne q] at h
      exact .inr ⟨fun z => q z.symm, h, List.getElem?_set_ne q⟩
  refine ⟨S.ex, by simpa using S.len, fun j d' e => ?_, fun j es e => ?_, fun j k es fs r e1 e2 e3 e4 => ?_⟩
  · rcases cs j _ e with ⟨_, z⟩ | ⟨_, z, y⟩
    · cases z
    · rw [y]
      exact S.im j d' z
  · rcases cs j _ e with ⟨rfl, z⟩ | ⟨_, z, y⟩
    · cases z
      exact ⟨p, xs, List.getElem?_set_self hs, hp, gp, hb⟩
    · rw [y]
      exact S.ow j es z
  · rcases cs j _ e1 with ⟨rfl, z⟩ | ⟨nj, z, y⟩
    · rcases cs k _ e2 with ⟨rfl, z2⟩ | ⟨nk, z2, y2⟩
      · rfl
      · rw [List.getElem?_set_self hs] at e3
        rw [y2] at e4
        cases e3
        exact absurd ⟨k, fs, z2, e4⟩ hn
    · rcases cs k _ e2 with ⟨rfl, z2⟩ | ⟨nk, z2, y2⟩
      · rw [List.getElem?_set_self hs] at e4
        rw [y] at e3
        cases e4
        exact absurd ⟨j, es, z, e3⟩ hn
      · rw [y] at e3
        rw [y2] at e4
        exact S.ap j k es fs r z z2 e3 e4
theorem Stt.own_there (S : Stt K w Γ σ G H) {a : Addr} (h : own Γ σ a) : H a ≠ none ∧ G a = none := by
  obtain ⟨i, ds, h1, h2⟩ := h
  obtain ⟨p, xs, h3, h4, h5, _⟩ := S.ow i ds h1
  rw [h2] at h3
  cases h3
  exact ⟨ne_none h4, h5⟩
theorem own_putO {i : Nat} {p a : Addr} (h : own (Γ.set i (.ow ds)) (σ.set i (some (.ref p))) a) : a = p ∨ own Γ σ a := by
  obtain ⟨j, es, h1, h2⟩ := h
  by_cases q : i = j
  · subst q
    by_cases hl : i < σ.length
    · rw [List.getElem?_set_self hl] at h2
      cases h2
      exact .inl rfl
    · rw [List.getElem?_eq_none (by simpa using hl)] at h2
      cases h2
  · rw [List.getElem?_set_ne q] at h1 h2
    exact .inr ⟨j, es, h1, h2⟩
theorem sv_asgO {i : Nat} (hi : i < Γ.length) (h : EvN K w te Γ ds) : Sv K w (tAsg te (gName i)) Γ (.nx (Γ.set i (.ow ds))) := fun σ G H D S q =>
  h σ G H S _ fun p xs G2 H2 g hp gp h2 hb => by
    have S2 := S.grow g
    have hn : ¬ own Γ σ p := fun z => absurd hp (S.own_there z).1
    refine q _ G2 H2 g.gs (S2.putO hi h2 gp hb hn) fun a ha => ?_
    rcases own_putO ha with z | z
    · exact .inr (by rw [z]; exact hp)
    · exact .inl z
/-! freezing: what is owned becomes known -/
def fz : En → En
  | .ow ds => .im (.lst ds)
  | e => e
theorem fz_get {i : Nat} : (Γ.map fz)[i]? = (Γ[i]?).map fz := List.getElem?_map ..
/-- the known heap with the owned lists -/
def thaw (Γ : List En) (σ : L2.St) (G H : Hp) : Hp := fun a => if (Γ.zip σ).any (fun p => match p.1, p.2 with | .ow _, some (.ref b) => b == a | _, _ => false) then H a else G a
theorem any_own {a : Addr} : (Γ.zip σ).any (fun p => match p.1, p.2 with | .ow _, some (.ref b) => b == a | _, _ => false) = true ↔ own Γ σ a := by
  rw [List.any_eq_true]
  constructor
  · rintro ⟨⟨e, x⟩, hm, hp⟩
    obtain ⟨i, hi⟩ := List.mem_iff_getElem?.mp hm
    obtain ⟨h1, h2⟩ := List.getElem?_zip_eq_some.mp hi
    cases e with
    | ow ds =>
      cases x with
      | none => cases hp
      | some v =>
        cases v with
        | ref b =>
          have hb : b = a := eq_of_beq hp
          subst hb
          exact ⟨i, ds, h1, h2⟩
        | _ => cases hp
    | im d => cases hp
    | un => cases hp
  · rintro ⟨i, ds, h1, h2⟩
    refine ⟨(.ow ds, some (.ref a)), List.mem_iff_getElem?.mpr ⟨i, List.getElem?_zip_eq_some.mpr ⟨h1, h2⟩⟩, ?_⟩
    show (a == a) = true
    exact beq_self_eq_true a
theorem thaw_own (h : own Γ σ a) : thaw Γ σ G H a = H a := if_pos (any_own.mpr h)
theorem thaw_not {a : Addr} (h : ¬ own Γ σ a) : thaw Γ σ G H a = G a := if_neg fun z => h (any_own.mp z)
theorem Stt.thawEx (S : Stt K w Γ σ G H) : Ex G (thaw Γ σ G H) := fun a o h => by
  by_cases q : own Γ σ a
  · rw [(S.own_there q).2] at h
    cases h
  · rw [thaw_not q]
    exact h
theorem Stt.freeze (S : Stt K w Γ σ G H) : Stt K w (Γ.map fz) σ (thaw Γ σ G H) H := by
  refine ⟨fun a o h => ?_, by rw [S.len, List.length_map], fun i d e => ?_, fun i ds e => ?_, fun i j ds es p e1 e2 e3 e4 => ?_⟩
  · by_cases q : own Γ σ a
    · rw [thaw_own q] at h
      exact h
    · rw [thaw_not q] at h
      exact S.ex a o h
  · rw [fz_get] at e
    cases q : Γ[i]? with
    | none =>
      rw [q] at e
      cases e
    | some x =>
      rw [q] at e
      cases x with
      | un => cases e
      | im d' =>
        cases e
        obtain ⟨v, h1, h2⟩ := S.im i d q
        exact ⟨v, h1, h2.up S.thawEx⟩
      | ow ds =>
        cases e
        obtain ⟨p, xs, h1, h2, h3, h4⟩ := S.ow i ds q
        exact ⟨.ref p, h1, .lst (by rw [thaw_own ⟨i, ds, q, h1⟩]; exact h2) (h4.up S.thawEx)⟩
  · rw [fz_get] at e
    cases q : Γ[i]? with
    | none =>
      rw [q] at e
      cases e
    | some x =>
      rw [q] at e
      cases x <;> cases e
  · rw [fz_get] at e1
    cases q : Γ[i]? with
    | none =>
      rw [q] at e1
      cases e1
    | some x =>
      rw [q] at e1
      cases x <;> cases e1
theorem own_fz {a : Addr} (h : own (Γ.map fz) σ a) : False := by
  obtain ⟨i, ds, e, _⟩ := h
  rw [fz_get] at e
  cases q : Γ[i]? with
  | none =>
    rw [q] at e
    cases e
  | some x =>
    rw [q] at e
    cases x <;> cases e
theorem GroS.thaw (S : Stt K w Γ σ G H) (g : GroS (Γ.map fz) σ (thaw Γ σ G H) G2 H H2) (h : own Γ σ a) : H2 a = H a := by
  cases e : H a with
  | none => exact absurd e (S.own_there h).1
  | some o => exact g.r a o e fun z => own_fz z
/-- a value without objects -/
def flat : D → Bool
  | .non => true | .bl _ => true | .int _ => true | .str _ => true
  | _ => false
theorem Be.flat {v : V} (h : Be K w G v d) (f : flat d = true) : Be K w G2 v d := by
  cases h with
  | non => exact .non
  | bl b => exact .bl b
  | int i => exact .int i
  | str x => exact .str x
  | lst _ _ => cases f
  | tup _ _ => cases f
  | dct _ => cases f
  | obj _ _ => cases f
  | set _ => cases f
  | scr _ => cases f
  | ty _ => cases f
  | adr _ => cases f
theorem BeAll.flat : ∀ {ds : List D} {vs : List V}, BeAll K w G vs ds → (∀ d ∈ ds, Lh.flat d = true) → BeAll K w G2 vs ds
  | [], _, h, _ => by cases h; exact .nil
  | d :: ds, _, h, f => by
    cases h with
    | cons h1 h2 => exact .cons (h1.flat (f d List.mem_cons_self)) (BeAll.flat h2 fun x hx => f x (List.mem_cons_of_mem _ hx))
/-- behind a growth of the frozen state the owned are still owned -/
theorem Stt.back (S : Stt K w Γ σ G H) (g : Grow (thaw Γ σ G H) G2 H H2) : Grow G G H H2 := by
  refine ⟨Ex.refl G, g.r, fun a o h => g.r a o (S.ex a o h), fun a _ h => h⟩
theorem ev_flat (h : EvD K w te (Γ.map fz) d) (f : flat d = true) : EvD K w te Γ d := fun σ G H S Q q =>
  h σ _ H S.freeze Q fun v G2 H2 g hb => q v G H2 (S.back g) (hb.flat f)
theorem et_flat {b : Bool} (h : EvT K w tt (Γ.map fz) b) : EvT K w tt Γ b := fun σ G H S Q q =>
  h σ _ H S.freeze Q fun G2 H2 g => q G H2 (S.back g)
theorem en_flat (h : EvN K w te (Γ.map fz) ds) (f : ∀ d ∈ ds, flat d = true) : EvN K w te Γ ds := fun σ G H S Q q =>
  h σ _ H S.freeze Q fun p xs G2 H2 g hp gp h2 hb => q p xs G H2 (S.back g) hp (Evl.fresh_back S.ex hp) h2 (hb.flat f)
/-- the owned are given up -/
theorem sv_freeze (h : Sv K w t (Γ.map fz) o) : Sv K w t Γ o := fun σ G H D S q => h σ _ H D S.freeze (by
  have key : ∀ {G2 H2}, GroS (Γ.map fz) σ (thaw Γ σ G H) G2 H H2 → GroS Γ σ G G2 H H2 := fun {G2 H2} g =>
    ⟨S.thawEx.trans g.k, g.s, fun a ha hg hn => g.f a ha (by rw [thaw_not hn]; exact hg) fun z => own_fz z, fun a o ha _ => g.r a o ha fun z => own_fz z, g.d⟩
  cases o with
  | nx Γ' => exact fun σ' G2 H2 g S2 ho => q σ' G2 H2 (key g) S2 fun a ha => (ho a ha).elim (fun z => (own_fz z).elim) .inr
  | rt d => exact fun v G2 H2 g hb => q v G2 H2 (key g) hb
  | rn ds => exact fun p xs G2 H2 g hp gp h2 hb => q p xs G2 H2 (key g) (hp.elim (fun z => (own_fz z).elim) .inr) gp h2 hb)

/-! more assignments -/
theorem sv_asg2 {i j : Nat} {e : D} (h : EvD K w te Γ (.tup [d, e])) : Sv K w (tAsg te (gTup K 2 (gCons (gName i) (gCons (gName j) gNil)))) Γ (.nx ((Γ.set i (.im d)).set j (.im e))) := fun σ G H D S q =>
  h σ G H S _ fun v G2 H2 g hb => by
    cases hb with
    | tup a1 b1 =>
      obtain ⟨x, y, rfl, h1, h2⟩ := be2 b1
      refine ⟨_, _, rfl, SqT.of (g.s _ _ a1), rfl, x, [y], rfl, y, [], rfl, rfl, q _ G2 H2 g.gs (((S.grow g).put h1).put h2) fun a ha => .inl ?_⟩
      exact own_set (fun ds => by intro z; cases z) (own_set (fun ds => by intro z; cases z) ha)
theorem sv_asg3 {i j k : Nat} {e f : D} (h : EvD K w te Γ (.tup [d, e, f])) : Sv K w (tAsg te (gTup K 3 (gCons (gName i) (gCons (gName j) (gCons (gName k) gNil))))) Γ (.nx (((Γ.set i (.im d)).set j (.im e)).set k (.im f))) := fun σ G H D S q =>
  h σ G H S _ fun v G2 H2 g hb => by
    cases hb with
    | tup a1 b1 =>
      cases b1 with
      | cons h0 b1 =>
        obtain ⟨x, y, rfl, h1, h2⟩ := be2 b1
        refine ⟨_, _, rfl, SqT.of (g.s _ _ a1), rfl, _, [x, y], rfl, x, [y], rfl, y, [], rfl, rfl, q _ G2 H2 g.gs ((((S.grow g).put h0).put h1).put h2) fun a ha => .inl ?_⟩
        exact own_set (fun ds => by intro z; cases z) (own_set (fun ds => by intro z; cases z) (own_set (fun ds => by intro z; cases z) ha))
theorem sv_par {i j : Nat} {e : D} {ta : TA} (h : EvA K w ta Γ [d, e]) : Sv K w (tPar i j ta) Γ (.nx ((Γ.set i (.im d)).set j (.im e))) := fun σ G H D S q =>
  h σ G H S _ fun vs G2 H2 g hb => by
    obtain ⟨x, y, rfl, h1, h2⟩ := be2 hb
    refine ⟨x, y, rfl, q _ G2 H2 g.gs (((S.grow g).put h1).put h2) fun a ha => .inl ?_⟩
    exact own_set (fun ds => by intro z; cases z) (own_set (fun ds => by intro z; cases z) ha)
/-- two new lists, both owned -/
theorem sv_parO {i j : Nat} {t1 t2 : TE} {ds es : List D} (hi : i < Γ.length) (hj : j < Γ.length) (h1 : EvN K w t1 Γ ds) (h2 : EvN K w t2 Γ es) : Sv K w (tPar i j (tCons t1 (tCons t2 tNil))) Γ (.nx ((Γ.set i (.ow ds)).set j (.ow es))) := fun σ G H D S q =>
  h1 σ G H S _ fun p xs G2 H2 g hp gp h2' hb => h2 σ G2 H2 (S.grow g) _ fun r ys G3 H3 g3 hr gr h3 hc => by
    have gg := g.trans g3
    have S3 := S.grow gg
    have rp : p ≠ r := fun e => by
      subst e
      rw [h2'] at hr
      cases hr
    have hr0 : H r = none := Evl.fresh_back g.r hr
    have n1 : ¬ own Γ σ p := fun z => absurd hp (S.own_there z).1
    have S4 := S3.putO hi (g3.r _ _ h2') (g3.f p (ne_none h2') gp) (hb.up g3.k) n1
    have n2 : ¬ own (Γ.set i (.ow ds)) (σ.set i (some (.ref p))) r := fun z => by
      rcases own_putO z with e | z
      · exact rp e.symm
      · exact absurd hr0 (S.own_there z).1
    have S5 := S4.putO (i := j) (by simpa using hj) h3 gr hc n2
    refine ⟨.ref p, .ref r, rfl, q _ G3 H3 gg.gs S5 fun a ha => ?_⟩
    rcases own_putO ha with e | ha
    · exact .inr (by rw [e]; exact hr0)
    · rcases own_putO ha with e | ha
      · exact .inr (by rw [e]; exact hp)
      · exact .inl ha

/-! return, if, expressions -/
theorem sv_ret (h : EvD K w te Γ d) : Sv K w (tRet te) Γ (.rt d) := fun σ G H D S q => h σ G H S _ fun v G2 H2 g hb => q v G2 H2 g.gs hb
theorem sv_retN (h : EvN K w te Γ ds) : Sv K w (tRet te) Γ (.rn ds) := fun σ G H D S q => h σ G H S _ fun p xs G2 H2 g hp gp h2 hb => q p xs G2 H2 g.gs (.inr hp) gp h2 hb
/-- an owned list is handed back -/
theorem sv_retO {i : Nat} (h : Γ[i]? = some (.ow ds)) : Sv K w (tRet (tVar i)) Γ (.rn ds) := fun σ G H D S q => by
  obtain ⟨p, xs, h1, h2, h3, h4⟩ := S.ow i ds h
  exact ⟨.ref p, h1, q p xs G H (GroS.refl S.ex) (.inl ⟨i, ds, h, h1⟩) h3 h2 h4⟩
theorem sv_retNone : Sv K w tRetN Γ (.rt .non) := fun σ G H D S q => q .non G H (GroS.refl S.ex) .non
theorem sv_if {b : Bool} (h : EvT K w tt Γ b) (h1 : b = true → Sv K w t Γ o) (h2 : b = false → Sv K w u Γ o) : Sv K w (tIfS tt t u) Γ o := fun σ G H D S q => h σ G H S _ fun G2 H2 g => by
  have q2 : Wish K w Γ σ G2 H2 D o := wish_seq (Γ := Γ) (σ := σ) g.gs (fun a ha => .inl ha) q
  cases b with
  | true => exact h1 rfl σ G2 H2 D (S.grow g) q2
  | false => exact h2 rfl σ G2 H2 D (S.grow g) q2
theorem sv_drop (h : EvD K w te Γ d) : Sv K w (tDrop te) Γ (.nx Γ) := fun σ G H D S q => h σ G H S _ fun v G2 H2 g hb => q σ G2 H2 g.gs (S.grow g) fun a ha => .inl ha

/-! x.append(e) of an owned list -/
theorem Stt.grown (S : Stt K w Γ σ G H) {i : Nat} {p : Addr} {ys : List V} {es : List D} (h : Γ[i]? = some (.ow ds)) (h1 : σ[i]? = some (some (.ref p))) (hb : BeAll K w G ys es) : Stt K w (Γ.set i (.ow es)) σ G (upd H p (.lst ys)) := by
  have hi : i < Γ.length := (List.getElem?_eq_some_iff.mp h).1
  have op : own Γ σ p := ⟨i, ds, h, h1⟩
  have gp := (S.own_there op).2
  have cs : ∀ (j : Nat) (e : En), (Γ.set i (.ow es))[j]? = some e → (j = i ∧ e = .ow es) ∨ (j ≠ i ∧ Γ[j]? = some e) := fun j e h => by
    by_cases q : i = j
    · subst q
      rw [List.getElem?_set_self hi] at h
      exact .inl ⟨rfl, (Option.some.inj h).symm⟩
    · rw [List.getElem?_set_ne q] at h
      exact .inr ⟨fun z => q z.symm, h⟩
  refine ⟨fun a o ha => ?_, by simpa using S.len, fun j d' e => ?_, fun j fs e => ?_, fun j k fs gs r e1 e2 e3 e4 => ?_⟩
  · rw [upd_ne (ne_of_none ha gp)]
    exact S.ex a o ha
  · rcases cs j _ e with ⟨_, z⟩ | ⟨_, z⟩
    · cases z
    · exact S.im j d' z
  · rcases cs j _ e with ⟨rfl, z⟩ | ⟨nj, z⟩
    · cases z
      exact ⟨p, ys, h1, upd_same, gp, hb⟩
    · obtain ⟨r, zs, e1, e2, e3, e4⟩ := S.ow j fs z
      refine ⟨r, zs, e1, ?_, e3, e4⟩
      rw [upd_ne fun q => nj (S.ap j i fs ds r z h e1 (by rw [q]; exact h1))]
      exact e2
  · rcases cs j _ e1 with ⟨rfl, z⟩ | ⟨nj, z⟩
    · rcases cs k _ e2 with ⟨rfl, z2⟩ | ⟨nk, z2⟩
      · rfl
      · exact S.ap j k ds gs r h z2 e3 e4
    · rcases cs k _ e2 with ⟨rfl, z2⟩ | ⟨nk, z2⟩
      · exact S.ap j k fs ds r z h e3 e4
      · exact S.ap j k fs gs r z z2 e3 e4
theorem own_grown {i : Nat} {es : List D} {a : Addr} (h : Γ[i]? = some (.ow ds)) (z : own (Γ.set i (.ow es)) σ a) : own Γ σ a := by
  obtain ⟨j, fs, e1, e2⟩ := z
  by_cases q : i = j
  · subst q
    exact ⟨i, ds, h, e2⟩
  · rw [List.getElem?_set_ne q] at e1
    exact ⟨j, fs, e1, e2⟩
theorem GroS.mut {p : Addr} {ys : List V} (S : Stt K w Γ σ G H) (g : Grow G G2 H H2) (op : own Γ σ p) : GroS Γ σ G G2 H (upd H2 p (.lst ys)) := by
  have gp : G2 p = none := g.f p (S.own_there op).1 (S.own_there op).2
  refine ⟨g.k, fun a o ha => ?_, fun a h1 h2 _ => g.f a h1 h2, fun a o h hn => ?_, fun a h => ?_⟩
  · rw [upd_ne (ne_of_none ha gp)]
    exact g.s a o ha
  · rw [upd_ne fun q => hn (by rw [q]; exact op)]
    exact g.r a o h
  · by_cases q : a = p
    · rw [q, upd_same]
      exact fun z => nomatch z
    · rw [upd_ne q]
      exact (Grow.gs (Γ := Γ) (σ := σ) g).d a h
theorem sv_append {i : Nat} (h : Γ[i]? = some (.ow ds)) (he : EvD K w te Γ d) (hz : ds.length ≤ 1000000) : Sv K w (tDrop (tBM K "list" rAppend (tVar i) (tCons te tNil))) Γ (.nx (Γ.set i (.ow (ds ++ [d])))) := fun σ G H D S q => by
  obtain ⟨p, xs, h1, h2, h3, h4⟩ := S.ow i ds h
  refine ⟨.ref p, h1, .inl ⟨rfl, _, SqL.of h2⟩, ?_⟩
  refine he σ G H S _ fun v G2 H2 g hb => ?_
  have op : own Γ σ p := ⟨i, ds, h, h1⟩
  refine ⟨p, xs, v, rfl, rfl, g.r _ _ h2, ?_, ?_⟩
  · rw [h4.length]
    exact Nat.lt_of_le_of_lt hz (by decide)
  · exact q σ G2 _ (GroS.mut S g op) ((S.grow g).grown h h1 ((h4.up g.k).append (.cons hb .nil))) fun a ha => .inl (own_grown h ha)
/-- the item a value without objects, reckoned from the owned lists too -/
theorem sv_appendF {i : Nat} (h : Γ[i]? = some (.ow ds)) (he : EvD K w te (Γ.map fz) d) (f : flat d = true) (hz : ds.length ≤ 1000000) : Sv K w (tDrop (tBM K "list" rAppend (tVar i) (tCons te tNil))) Γ (.nx (Γ.set i (.ow (ds ++ [d])))) := sv_append h (ev_flat he f) hz
/-- x.extend(a new list) -/
theorem sv_extend {i : Nat} {es : List D} (h : Γ[i]? = some (.ow ds)) (he : EvN K w te Γ es) (hz : ds.length + es.length ≤ 1000000) : Sv K w (tDrop (tBM K "list" rExtend (tVar i) (tCons te tNil))) Γ (.nx (Γ.set i (.ow (ds ++ es)))) := fun σ G H D S q => by
  obtain ⟨p, xs, h1, h2, h3, h4⟩ := S.ow i ds h
  refine ⟨.ref p, h1, .inl ⟨rfl, _, SqL.of h2⟩, ?_⟩
  refine he σ G H S _ fun r ys G2 H2 g hr gr hr2 hb => ?_
  have op : own Γ σ p := ⟨i, ds, h, h1⟩
  refine ⟨p, r, xs, ys, rfl, rfl, g.r _ _ h2, hr2, ?_, ?_⟩
  · rw [h4.length, hb.length]
    exact Nat.le_trans hz (by decide)
  · exact q σ G2 _ (GroS.mut S g op) ((S.grow g).grown h h1 ((h4.up g.k).append hb)) fun a ha => .inl (own_grown h ha)

/-! for -/
def TgtS (K : PySem.W.Frag) (w : World) (g : TG) (Γ : List En) (d : D) (Γ' : List En) : Prop :=
  ∀ σ G H x, Stt K w Γ σ G H → Be K w G x d → ∀ Q : L2.St → Hp → Prop, (∀ σ2, Stt K w Γ' σ2 G H → (∀ a, own Γ' σ2 a → own Γ σ a) → Q σ2 H) → g x σ H Q
theorem ts_name {i : Nat} : TgtS K w (gName i) Γ d (Γ.set i (.im d)) := fun σ G H x S hb Q q => q _ (S.put hb) fun a ha => own_set (fun ds => by intro z; cases z) ha
theorem ts_pair {i j : Nat} {e : D} : TgtS K w (gTup K 2 (gCons (gName i) (gCons (gName j) gNil))) Γ (.tup [d, e]) ((Γ.set i (.im d)).set j (.im e)) := fun σ G H x S hb Q q => by
  cases hb with
  | tup a1 b1 =>
    obtain ⟨x, y, rfl, h1, h2⟩ := be2 b1
    exact ⟨_, _, rfl, SqT.of (S.ex _ _ a1), rfl, x, [y], rfl, y, [], rfl, rfl, q _ ((S.put h1).put h2) fun a ha => own_set (fun ds => by intro z; cases z) (own_set (fun ds => by intro z; cases z) ha)⟩
theorem ts_triple {i j k : Nat} {e f : D} : TgtS K w (gTup K 3 (gCons (gName i) (gCons (gName j) (gCons (gName k) gNil)))) Γ (.tup [d, e, f]) (((Γ.set i (.im d)).set j (.im e)).set k (.im f)) := fun σ G H x S hb Q q => by
  cases hb with
  | tup a1 b1 =>
    cases b1 with
    | cons h0 b1 =>
      obtain ⟨x, y, rfl, h1, h2⟩ := be2 b1
      exact ⟨_, _, rfl, SqT.of (S.ex _ _ a1), rfl, _, [x, y], rfl, x, [y], rfl, y, [], rfl, rfl, q _ (((S.put h0).put h1).put h2) fun a ha => own_set (fun ds => by intro z; cases z) (own_set (fun ds => by intro z; cases z) (own_set (fun ds => by intro z; cases z) ha))⟩
/-- n whole turns; then the items' end, or a turn that returns -/
theorem sv_forK {wi : TI} {g : TG} {tb : TS} (items : List D) (Γs Γt : Nat → List En) (n : Nat) (hn : n ≤ items.length) (hs : EvI K w wi (Γs 0) items)
    (ht : ∀ i d, items[i]? = some d → i ≤ n → TgtS K w g (Γs i) d (Γt i)) (hb : ∀ i, i < n → Sv K w tb (Γt i) (.nx (Γs (i + 1))))
    (he : (n = items.length ∧ o = .nx (Γs n)) ∨ (n < items.length ∧ (∀ Γ', o ≠ .nx Γ') ∧ Sv K w tb (Γt n) o)) : Sv K w (tFor wi g tb) (Γs 0) o := fun σ G H D S q => hs σ G H S _ fun J G1 H1 g1 R => by
  have S1 := S.grow g1
  refine ⟨fun i m σc Hc => m + i = items.length ∧ i ≤ n ∧ ∃ Gc, GroS (Γs 0) σ G1 Gc H1 Hc ∧ Stt K w (Γs i) σc Gc Hc ∧ ∀ a, own (Γs i) σc a → own (Γs 0) σ a ∨ H1 a = none, ⟨items.length, by omega, Nat.zero_le _, G1, GroS.refl g1.s, S1, fun a ha => .inl ha⟩, ?_⟩
  rintro i m σc Hc ⟨em, hi, Gc, gc, Sc, oc⟩
  have q1 : Wish K w (Γs 0) σ G1 H1 D o := wish_seq (Γ := Γs 0) (σ := σ) g1.gs (fun a ha => .inl ha) q
  by_cases hl : i < items.length
  · refine .inr ⟨R.go i Gc Hc gc.k Sc.ex hl, fun σ' H' => i < n ∧ ∃ Gd, GroS (Γs 0) σ G1 Gd H1 H' ∧ Stt K w (Γs (i + 1)) σ' Gd H' ∧ ∀ a, own (Γs (i + 1)) σ' a → own (Γs 0) σ a ∨ H1 a = none, ?_, ?_⟩
    · rintro σ' H' ⟨h0, Gd, h1, h2, h3⟩
      exact ⟨m - 1, by omega, by omega, by omega, Gd, h1, h2, h3⟩
    · intro x H' hy
      obtain ⟨d, Gd, ed, gd, hbx⟩ := R.yld i Gc Hc x H' gc.k Sc.ex hl hy
      have Sd := Sc.grow gd
      refine ht i d ed hi σc Gd H' x Sd hbx _ fun σ2 S2 o2 => ?_
      have gg : GroS (Γs 0) σ G1 Gd H1 H' := gc.trans (Grow.gs (Γ := Γs i) (σ := σc) gd) oc
      have o3 : ∀ a, own (Γt i) σ2 a → own (Γs 0) σ a ∨ H1 a = none := fun a ha => oc a (o2 a ha)
      by_cases hin : i < n
      · refine hb i hin σ2 Gd H' _ S2 fun σ3 G3 H3 g3 S3 o4 => ⟨hin, G3, gg.trans g3 o3, S3, fun a ha => ?_⟩
        rcases o4 a ha with z | z
        · exact o3 a z
        · cases e : H1 a with
          | none => exact .inr rfl
          | some o => exact absurd z (gg.d a (by rw [e]; exact fun z => nomatch z))
      · have ei : i = n := by omega
        subst ei
        rcases he with ⟨h0, _⟩ | ⟨_, hne, hret⟩
        · omega
        · refine hret σ2 Gd H' _ S2 ?_
          have q2 := wish_seq gg o3 q1
          cases o with
          | nx Γ' => exact absurd rfl (hne Γ')
          | rt d => exact q2
          | rn ds => exact q2
  · refine .inl ⟨R.stop i Gc Hc gc.k Sc.ex (by omega), ?_⟩
    have ei : i = n := by omega
    subst ei
    rcases he with ⟨_, rfl⟩ | ⟨h0, _⟩
    · exact q1 σc Gc Hc gc Sc oc
    · omega
theorem sv_for {wi : TI} {g : TG} {tb : TS} (items : List D) (Γs Γt : Nat → List En) (hs : EvI K w wi (Γs 0) items)
    (ht : ∀ i d, items[i]? = some d → TgtS K w g (Γs i) d (Γt i)) (hb : ∀ i d, items[i]? = some d → Sv K w tb (Γt i) (.nx (Γs (i + 1)))) : Sv K w (tFor wi g tb) (Γs 0) (.nx (Γs items.length)) :=
  sv_forK items Γs Γt items.length (Nat.le_refl _) hs (fun i d e _ => ht i d e) (fun i hi => hb i _ (List.getElem?_eq_getElem hi)) (.inl ⟨rfl, rfl⟩)
/-! while: n turns -/
theorem sv_while {c : TT} {tb : TS} (Γs : Nat → List En) (n : Nat) (ht : ∀ i, i < n → EvT K w c (Γs i) true) (hb : ∀ i, i < n → Sv K w tb (Γs i) (.nx (Γs (i + 1)))) (hf : EvT K w c (Γs n) false) : Sv K w (tWhile c tb) (Γs 0) (.nx (Γs n)) := fun σ G H D S q => by
  refine ⟨fun m σc Hc => ∃ i, m + i = n ∧ ∃ Gc, GroS (Γs 0) σ G Gc H Hc ∧ Stt K w (Γs i) σc Gc Hc ∧ ∀ a, own (Γs i) σc a → own (Γs 0) σ a ∨ H a = none, ⟨n, 0, by omega, G, GroS.refl S.ex, S, fun a ha => .inl ha⟩, ?_⟩
  rintro m σc Hc ⟨i, em, Gc, gc, Sc, oc⟩
  by_cases hi : i < n
  · refine ht i hi σc Gc Hc Sc _ fun G2 H2 g2 => ?_
    rw [if_pos rfl]
    refine ⟨fun σ' H' => ∃ Gd, GroS (Γs 0) σ G Gd H H' ∧ Stt K w (Γs (i + 1)) σ' Gd H' ∧ ∀ a, own (Γs (i + 1)) σ' a → own (Γs 0) σ a ∨ H a = none, ?_, ?_⟩
    · rintro σ' H' ⟨Gd, h1, h2, h3⟩
      exact ⟨m - 1, by omega, i + 1, by omega, Gd, h1, h2, h3⟩
    · have gg := gc.trans (Grow.gs (Γ := Γs i) (σ := σc) g2) oc
      refine hb i hi σc G2 H2 _ (Sc.grow g2) fun σ3 G3 H3 g3 S3 o4 => ⟨G3, gg.trans g3 oc, S3, fun a ha => ?_⟩
      rcases o4 a ha with z | z
      · exact oc a z
      · cases e : H a with
        | none => exact .inr rfl
        | some o => exact absurd z (gg.d a (by rw [e]; exact fun z => nomatch z))
  · have ei : i = n := by omega
    subst ei
    refine hf σc Gc Hc Sc _ fun G2 H2 g2 => ?_
    rw [if_neg Bool.false_ne_true]
    exact q σc G2 H2 (gc.trans (Grow.gs (Γ := Γs i) (σ := σc) g2) oc) (Sc.grow g2) oc

/-! ### promises -/
/-- on data ds: a value that bears d -/
def spD (K : PySem.W.Frag) (w : World) (R : List D → D → Prop) : Sp := fun vs H Q _ => ∃ G ds d, Ex G H ∧ BeAll K w G vs ds ∧ R ds d ∧ ∀ v G2 H2, Grow G G2 H H2 → Be K w G2 v d → Q v H2
/-- on data ds: a new list -/
def spN (K : PySem.W.Frag) (w : World) (R : List D → List D → Prop) : Sp := fun vs H Q _ => ∃ G ds es, Ex G H ∧ BeAll K w G vs ds ∧ R ds es ∧
  ∀ p xs G2 H2, Grow G G2 H H2 → H p = none → G2 p = none → H2 p = some (.lst xs) → BeAll K w G2 xs es → Q (.ref p) H2
theorem ev_call {R : List D → D → Prop} {ta : TA} {E : XK} (h : EvA K w ta Γ ds) (hr : R ds d) : EvD K w (tCall (spD K w R) [] E ta) Γ d := fun σ G H S Q q =>
  h σ G H S _ fun vs G2 H2 g hb => ⟨G2, ds, d, g.s, by rw [List.append_nil]; exact hb, hr, fun v G3 H3 g3 b3 => q v G3 H3 (g.trans g3) b3⟩
theorem en_call {R : List D → List D → Prop} {ta : TA} {E : XK} {es : List D} (h : EvA K w ta Γ ds) (hr : R ds es) : EvN K w (tCall (spN K w R) [] E ta) Γ es := fun σ G H S Q q =>
  h σ G H S _ fun vs G2 H2 g hb => ⟨G2, ds, es, g.s, by rw [List.append_nil]; exact hb, hr, fun p xs G3 H3 g3 hp gp h3 b3 => q p xs G3 H3 (g.trans g3) (Evl.fresh_back g.r hp) gp h3 b3⟩
/-- the environment at a def's entry -/
def ent (n : Nat) (ds : List D) : List En := ds.map En.im ++ List.replicate (n - ds.length) .un
theorem ent_none {n : Nat} {ds : List D} {σ : L2.St} {a : Addr} : ¬ own (ent n ds) σ a := fun ⟨i, es, h, _⟩ => by
  have hm := List.mem_of_getElem? h
  unfold ent at hm
  rcases List.mem_append.mp hm with z | z
  · obtain ⟨d, _, e⟩ := List.mem_map.mp z
    cases e
  · have := List.eq_of_mem_replicate z
    cases this
theorem stt_start {N : List Str} {vs : List V} (e : Ex G H) (hb : BeAll K w G vs ds) (hl : ds.length ≤ N.length) : Stt K w (ent N.length ds) (L2.start N vs) G H := by
  have lv := hb.length
  refine ⟨e, ?_, fun i d h => ?_, fun i es h => ?_, fun i j ds' es p h1 => ?_⟩
  · unfold L2.start ent
    simp only [List.length_append, List.length_map, List.length_replicate]
    omega
  · unfold ent at h
    by_cases hi : i < ds.length
    · rw [List.getElem?_append_left (by simpa using hi), List.getElem?_map] at h
      cases q : ds[i]? with
      | none =>
        rw [q] at h
        cases h
      | some d' =>
        rw [q] at h
        cases h
        obtain ⟨v, hv, hbv⟩ := hb.getD q
        refine ⟨v, ?_, hbv⟩
        unfold L2.start
        rw [List.getElem?_append_left (by rw [List.length_map]; omega), List.getElem?_map, hv]
        rfl
    · rw [List.getElem?_append_right (by simpa using hi)] at h
      have := List.eq_of_mem_replicate (List.mem_of_getElem? h)
      cases this
  · exfalso
    have hm := List.mem_of_getElem? h
    unfold ent at hm
    rcases List.mem_append.mp hm with z | z
    · obtain ⟨d, _, e⟩ := List.mem_map.mp z
      cases e
    · have := List.eq_of_mem_replicate z
      cases this
  · exfalso
    have hm := List.mem_of_getElem? h1
    unfold ent at hm
    rcases List.mem_append.mp hm with z | z
    · obtain ⟨d, _, e⟩ := List.mem_map.mp z
      cases e
    · have := List.eq_of_mem_replicate z
      cases this
/-- a body that returns d -/
theorem body_rt {N : List Str} {vs : List V} {Q : VK} (h : Sv K w t (ent N.length ds) (.rt d)) (e : Ex G H) (hb : BeAll K w G vs ds) (hl : ds.length ≤ N.length) (q : ∀ v G2 H2, Grow G G2 H H2 → Be K w G2 v d → Q v H2) :
    t { nx := fun _ H' => Q .non H', rt := Q } (L2.start N vs) H :=
  h _ G H _ (stt_start e hb hl) fun v G2 H2 g hb => q v G2 H2 (g.grow fun x => ent_none) hb
/-- a body that ends without a return -/
theorem body_nx {N : List Str} {vs : List V} {Q : VK} (h : Sv K w t (ent N.length ds) (.nx Γ')) (e : Ex G H) (hb : BeAll K w G vs ds) (hl : ds.length ≤ N.length) (q : ∀ v G2 H2, Grow G G2 H H2 → Be K w G2 v .non → Q v H2) :
    t { nx := fun _ H' => Q .non H', rt := Q } (L2.start N vs) H :=
  h _ G H _ (stt_start e hb hl) fun σ' G2 H2 g S2 _ => q .non G2 H2 (g.grow fun x => ent_none) .non
theorem body_rn {N : List Str} {vs : List V} {Q : VK} (h : Sv K w t (ent N.length ds) (.rn cs)) (e : Ex G H) (hb : BeAll K w G vs ds) (hl : ds.length ≤ N.length) (q : ∀ p xs G2 H2, Grow G G2 H H2 → H p = none → G2 p = none → H2 p = some (.lst xs) → BeAll K w G2 xs cs → Q (.ref p) H2) :
    t { nx := fun _ H' => Q .non H', rt := Q } (L2.start N vs) H :=
  h _ G H _ (stt_start e hb hl) fun p xs G2 H2 g hp gp h2 hc => q p xs G2 H2 (g.grow fun x => ent_none) (hp.elim (fun z => absurd z ent_none) id) gp h2 hc
end

section
variable {P : Program} {w : World} {K : PySem.W.Frag} {mg : Str → Option Value} {base : Heap} {x qual : Str} {st : Stmt} {f : Addr} {fd : FuncData} {N ps : List Str} {k : Nat}
/-- a def with the promise spD, from its body as a term and what the term does -/
theorem fn_D {R : List D → D → Prop} (F : Fun K x qual st f fd) (S : FnScope N ps (defScope st)) (hR : ∀ ds d, R ds d → ds.length = ps.length)
    (h : ∀ (cdv : Value) (A : Around) (outer : List Env) (s : Shared) (H : Hp) (E : XK), Room k (A.deeper (envOfC qual (defScope st) s.heap.objs.size f cdv)) →
      ∃ t, PSs (cxOf CX0 P w K mg base N qual (defScope st) f cdv A outer s H E).nox (defBody st) t ∧ ∀ ds d, R ds d → Sv K w t (ent N.length ds) (.rt d)) : FnOk P w K mg base CX0 (k + 1) f fd ps (spD K w R) := by
  have hp : ps.length ≤ N.length := by
    have := congrArg List.length S.pre
    rw [List.length_take] at this
    omega
  refine F.ok S (fun vs H Q E hs => ?_) (fun cdv A outer s H vs Q E hr hs => ?_)
  · obtain ⟨G, ds, d, _, hb, hr, _⟩ := hs
    rw [hb.length, hR ds d hr]
  · obtain ⟨t, ht, hv⟩ := h cdv A outer s H E hr
    obtain ⟨G, ds, d, e, hb, hr, q⟩ := hs
    exact ⟨t, ht, body_rt (hv ds d hr) e hb (by rw [hR ds d hr]; exact hp) q⟩
theorem fn_N {R : List D → List D → Prop} (F : Fun K x qual st f fd) (S : FnScope N ps (defScope st)) (hR : ∀ ds d, R ds d → ds.length = ps.length)
    (h : ∀ (cdv : Value) (A : Around) (outer : List Env) (s : Shared) (H : Hp) (E : XK), Room k (A.deeper (envOfC qual (defScope st) s.heap.objs.size f cdv)) →
      ∃ t, PSs (cxOf CX0 P w K mg base N qual (defScope st) f cdv A outer s H E).nox (defBody st) t ∧ ∀ ds es, R ds es → Sv K w t (ent N.length ds) (.rn es)) : FnOk P w K mg base CX0 (k + 1) f fd ps (spN K w R) := by
  have hp : ps.length ≤ N.length := by
    have := congrArg List.length S.pre
    rw [List.length_take] at this
    omega
  refine F.ok S (fun vs H Q E hs => ?_) (fun cdv A outer s H vs Q E hr hs => ?_)
  · obtain ⟨G, ds, d, _, hb, hr, _⟩ := hs
    rw [hb.length, hR ds d hr]
  · obtain ⟨t, ht, hv⟩ := h cdv A outer s H E hr
    obtain ⟨G, ds, es, e, hb, hr, q⟩ := hs
    exact ⟨t, ht, body_rn (hv ds es hr) e hb (by rw [hR ds es hr]; exact hp) q⟩
end
end Lh
set_option Elab.async false
set_option linter.all false
set_option maxRecDepth 100000
set_option maxHeartbeats 4000000
/-! Lh: == of data -/
namespace Lh
open PySem L2 PyProof.Rows
open Evl (Ex ex_l ex_t sz_of sz_lt)
/-! data without dicts, objects, nested at most n deep -/
mutual
def okd : Nat → D → Bool
  | _, .non => true
  | _, .bl _ => true
  | _, .int _ => true
  | n + 1, .lst xs => okds n xs
  | n + 1, .tup xs => okds n xs
  | _ + 1, .scr _ => true
  | _, .str s => PyData.strOk s
  | _, _ => false
def okds : Nat → List D → Bool
  | _, [] => true
  | n, x :: xs => okd n x && okds n xs
end
theorem okds_all (n : Nat) : ∀ xs : List D, okds n xs = xs.all (okd n)
  | [] => by simp [okds]
  | x :: xs => by rw [okds, okds_all n xs, List.all_cons]
theorem pys_map : ∀ xs : List D, D.pys xs = xs.map D.py
  | [] => rfl
  | x :: xs => by rw [D.pys, pys_map xs, List.map_cons]
theorem scr_lay : ∀ ns : List Int, PyData.canLayAll0 (ns.map PyData.int) = true ∧ PyData.depthAll (ns.map PyData.int) = 0
  | [] => ⟨rfl, rfl⟩
  | n :: ns => by
    obtain ⟨h1, h2⟩ := scr_lay ns
    constructor
    · rw [List.map_cons, PyData.canLayAll0, h1]
      rfl
    · rw [List.map_cons, PyData.depthAll, h2]
      rfl
mutual
theorem okd_ok : ∀ (n : Nat) (d : D), okd n d = true → d.plain = true ∧ d.py.canLay0 = true ∧ d.py.depth ≤ n
  | n, .non, _ => ⟨rfl, rfl, Nat.zero_le _⟩
  | n, .bl b, _ => ⟨rfl, rfl, Nat.zero_le _⟩
  | n, .int i, _ => ⟨rfl, rfl, Nat.zero_le _⟩
  | 0, .str s, h => ⟨rfl, by simpa [okd, D.py, PyData.canLay0] using h, Nat.zero_le _⟩
  | n + 1, .str s, h => ⟨rfl, by simpa [okd, D.py, PyData.canLay0] using h, Nat.zero_le _⟩
  | 0, .lst xs, h => by simp [okd] at h
  | n + 1, .lst xs, h => by
    have h : okds n xs = true := by simpa [okd] using h
    obtain ⟨h1, h2, h3⟩ := okds_ok n xs h
    exact ⟨h1, h2, Nat.succ_le_succ h3⟩
  | 0, .tup xs, h => by simp [okd] at h
  | n + 1, .tup xs, h => by
    have h : okds n xs = true := by simpa [okd] using h
    obtain ⟨h1, h2, h3⟩ := okds_ok n xs h
    exact ⟨h1, h2, Nat.succ_le_succ h3⟩
  | 0, .scr ns, h => by simp [okd] at h
  | n + 1, .scr ns, h => by
    obtain ⟨h1, h2⟩ := scr_lay ns
    refine ⟨rfl, h1, ?_⟩
    show PyData.depthAll (ns.map PyData.int) + 1 ≤ n + 1
    rw [h2]
    omega
  | 0, .dct, h => by simp [okd] at h
  | n + 1, .dct, h => by simp [okd] at h
  | 0, .obj C f d, h => by simp [okd] at h
  | n + 1, .obj C f d, h => by simp [okd] at h
  | 0, .set ns, h => by simp [okd] at h
  | n + 1, .set ns, h => by simp [okd] at h
  | 0, .ty a, h => by simp [okd] at h
  | n + 1, .ty a, h => by simp [okd] at h
  | 0, .adr a, h => by simp [okd] at h
  | n + 1, .adr a, h => by simp [okd] at h
theorem okds_ok : ∀ (n : Nat) (ds : List D), okds n ds = true → D.plains ds = true ∧ PyData.canLayAll0 (D.pys ds) = true ∧ PyData.depthAll (D.pys ds) ≤ n
  | n, [], _ => ⟨rfl, rfl, Nat.zero_le _⟩
  | n, d :: ds, h => by
    have h : okd n d = true ∧ okds n ds = true := by simpa [okds] using h
    obtain ⟨a1, a2, a3⟩ := okd_ok n d h.1
    obtain ⟨b1, b2, b3⟩ := okds_ok n ds h.2
    refine ⟨?_, ?_, ?_⟩
    · show (d.plain && D.plains ds) = true
      rw [a1, b1]
      rfl
    · show (d.py.canLay0 && PyData.canLayAll0 (D.pys ds)) = true
      rw [a2, b2]
      rfl
    · show max d.py.depth (PyData.depthAll (D.pys ds)) ≤ n
      exact Nat.max_le.mpr ⟨a3, b3⟩
end
theorem ok_of {n : Nat} {d : D} (h : okd n d = true) (hn : n ≤ 64 := by decide) : d.ok = true := by
  obtain ⟨h1, h2, h3⟩ := okd_ok n d h
  unfold D.ok SeqAt.shaped
  rw [h1, h2, decide_eq_true (Nat.le_trans h3 hn)]
  rfl
/-! shapes -/
theorem okd_lst {n : Nat} {xs : List D} (h : ∀ x ∈ xs, okd n x = true) : okd (n + 1) (.lst xs) = true := by
  rw [okd, okds_all]
  exact List.all_eq_true.mpr h
theorem okd_tup {n : Nat} {xs : List D} (h : ∀ x ∈ xs, okd n x = true) : okd (n + 1) (.tup xs) = true := by
  rw [okd, okds_all]
  exact List.all_eq_true.mpr h
theorem okd_li {n : Nat} (ns : List Int) : okd (n + 1) (Li ns) = true := okd_lst fun x hx => by
  obtain ⟨k, _, rfl⟩ := List.mem_map.mp hx
  cases n <;> simp [okd]
theorem okd_ll {n : Nat} (ls : List (List Int)) : okd (n + 2) (Ll ls) = true := okd_lst fun x hx => by
  obtain ⟨k, _, rfl⟩ := List.mem_map.mp hx
  exact okd_li k
/-! what == says -/
theorem deq_int (i j : Int) : deq (.int i) (.int j) = decide (i = j) := by
  show (i == j) = decide (i = j)
  by_cases h : i = j <;> simp [h]
theorem deq_bl (i j : Bool) : deq (.bl i) (.bl j) = decide (i = j) := by
  show (i == j) = decide (i = j)
  cases i <;> cases j <;> rfl
def deqs (a b : List D) : Bool := PyData.eqvAll (D.pys a) (D.pys b)
theorem deq_lst (a b : List D) : deq (.lst a) (.lst b) = deqs a b := rfl
theorem deq_tup (a b : List D) : deq (.tup a) (.tup b) = deqs a b := rfl
theorem deqs_nil : deqs [] [] = true := rfl
theorem deqs_cons (x y : D) (a b : List D) : deqs (x :: a) (y :: b) = (deq x y && deqs a b) := rfl
theorem deqs_nc (y : D) (b : List D) : deqs [] (y :: b) = false := rfl
theorem deqs_cn (y : D) (b : List D) : deqs (y :: b) [] = false := rfl
theorem deqs_map {α : Type} [DecidableEq α] {f : α → D} (hf : ∀ x y, deq (f x) (f y) = decide (x = y)) : ∀ a b : List α, deqs (a.map f) (b.map f) = decide (a = b)
  | [], [] => rfl
  | [], y :: b => by rw [List.map_nil, List.map_cons, deqs_nc]; simp
  | x :: a, [] => by rw [List.map_nil, List.map_cons, deqs_cn]; simp
  | x :: a, y :: b => by
    rw [List.map_cons, List.map_cons, deqs_cons, hf, deqs_map hf a b]
    by_cases h1 : x = y
    · by_cases h2 : a = b <;> simp [h1, h2]
    · simp [h1]
theorem deq_li (a b : List Int) : deq (Li a) (Li b) = decide (a = b) := deqs_map deq_int a b
theorem deq_ll (a b : List (List Int)) : deq (Ll a) (Ll b) = decide (a = b) := deqs_map deq_li a b
theorem deqs_refl : ∀ {n : Nat} {ds : List D}, (∀ d ∈ ds, deq d d = true) → deqs ds ds = true
  | _, [], _ => rfl
  | n, d :: ds, h => by
    rw [deqs_cons, h d List.mem_cons_self, deqs_refl (n := n) fun x hx => h x (List.mem_cons_of_mem _ hx)]
    rfl
theorem deqs_len : ∀ {a b : List D}, a.length ≠ b.length → deqs a b = false
  | [], [], h => absurd rfl h
  | [], _ :: _, _ => rfl
  | _ :: _, [], _ => rfl
  | x :: a, y :: b, h => by
    rw [deqs_cons, deqs_len (a := a) (b := b) fun e => h (by simp [e])]
    exact Bool.and_false _
section
variable {K : PySem.W.Frag} {w : World} {a b : D}
theorem rd_eqI {i j : Int} : RD K w (rEqD K) (.int i) (.int j) (.bl (decide (i = j))) := by
  have := rd_eq (K := K) (w := w) (a := .int i) (b := .int j) (by rfl) (by rfl)
  rw [deq_int] at this
  exact this
theorem rd_neI {i j : Int} : RD K w (rNeD K) (.int i) (.int j) (.bl (!decide (i = j))) := by
  have := rd_ne (K := K) (w := w) (a := .int i) (b := .int j) (by rfl) (by rfl)
  rw [deq_int] at this
  exact this
theorem rd_eqL {i j : List Int} : RD K w (rEqD K) (Li i) (Li j) (.bl (decide (i = j))) := by
  have := rd_eq (K := K) (w := w) (a := Li i) (b := Li j) (ok_of (okd_li (n := 0) _)) (ok_of (okd_li (n := 0) _))
  rw [deq_li] at this
  exact this
theorem rd_neL {i j : List Int} : RD K w (rNeD K) (Li i) (Li j) (.bl (!decide (i = j))) := by
  have := rd_ne (K := K) (w := w) (a := Li i) (b := Li j) (ok_of (okd_li (n := 0) _)) (ok_of (okd_li (n := 0) _))
  rw [deq_li] at this
  exact this
theorem rd_eqNil {i : List Int} : RD K w (rEqD K) (Li i) (.lst []) (.bl (decide (i = []))) := rd_eqL (j := [])
theorem rd_neNil {i : List Int} : RD K w (rNeD K) (Li i) (.lst []) (.bl (!decide (i = []))) := rd_neL (j := [])
theorem deqs_nilR : ∀ xs : List D, deqs xs [] = xs.isEmpty
  | [] => rfl
  | _ :: _ => rfl
theorem rd_eqNilC {α : Type} {c : α → D} {ys : List α} (h : okd 8 (Lc c ys) = true) : RD K w (rEqD K) (Lc c ys) (.lst []) (.bl ys.isEmpty) := by
  have := rd_eq (K := K) (w := w) (a := Lc c ys) (b := .lst []) (ok_of h) (by rfl)
  rw [deq_lst, deqs_nilR, List.isEmpty_map] at this
  exact this
theorem rd_neNilC {α : Type} {c : α → D} {ys : List α} (h : okd 8 (Lc c ys) = true) : RD K w (rNeD K) (Lc c ys) (.lst []) (.bl (!ys.isEmpty)) := by
  have := rd_ne (K := K) (w := w) (a := Lc c ys) (b := .lst []) (ok_of h) (by rfl)
  rw [deq_lst, deqs_nilR, List.isEmpty_map] at this
  exact this
theorem rd_eqK (ha : okd 8 a = true) (hb : okd 8 b = true) : RD K w (rEqD K) a b (.bl (deq a b)) := rd_eq (ok_of ha) (ok_of hb)
theorem rd_neK (ha : okd 8 a = true) (hb : okd 8 b = true) : RD K w (rNeD K) a b (.bl (!deq a b)) := rd_ne (ok_of ha) (ok_of hb)
end
end Lh
set_option Elab.async false
set_option linter.all false
set_option maxRecDepth 100000
set_option maxHeartbeats 4000000
/-! Lh: names of built-ins, defs by name -/
namespace Lh
open PySem L2 PyProof.Rows
open Evl (Ex ex_l ex_t sz_of sz_lt)
/-- the built-ins' names are free in the module -/
structure Bn (mg : Str → Option Value) : Prop where
  len : mg "len" = none
  any : mg "any" = none
  all : mg "all" = none
  sum : mg "sum" = none
  max : mg "max" = none
  min : mg "min" = none
  range : mg "range" = none
  list : mg "list" = none
  set : mg "set" = none
  sorted : mg "sorted" = none
  enumerate : mg "enumerate" = none
  zip : mg "zip" = none
  isinstance : mg "isinstance" = none
  int : mg "int" = none
  bool : mg "bool" = none
  tuple : mg "tuple" = none
  str : mg "str" = none
  abs : mg "abs" = none
  vErr : mg "ValueError" = none
/-- a def of the module by its name, with its promise -/
structure Has (P : Program) (w : World) (K : PySem.W.Frag) (mg : Str → Option Value) (base : Heap) (CX : CXT) (x : Str) (k : Nat) (ps : List Str) (sp : Sp) : Prop where
  ex : ∃ (f : Addr) (fd : FuncData), mg x = some (.ref f) ∧ PySem.W.keepIn K (.ref f) = true ∧ Binds K fd ps [] ∧ FnOk P w K mg base CX k f fd ps sp
theorem pcall {X : Cx} {CX : CXT} {x : Str} {k : Nat} {ps : List Str} {sp : Sp} {E : XK} {e : Expr} {es : List Expr} {t : TA} {p pos : Pos} (C : Has X.prog X.w X.K X.mg X.base CX x k ps sp) (hr : Room k X.A) (hx : Passes CX X E) (hg : Gl X x) (ha : PA X (e :: es) t)
    (hdb : (x == ("__debug__" : Str)) = false := by decide) (he : starEach (e :: es) X.env = (false, eval e X.env) :: starEach es X.env := by rfl) (hpl : (backTo pos (starEach es X.env)).any (·.1) = false := by rfl) : PE X (.Call (.Name x p) (e :: es) [] pos) (tCall sp [] E t) := by
  obtain ⟨f, fd, g, kp, b, ok⟩ := C.ex
  exact pe_call ok hr hg g kp b .nil hx ha hdb he hpl
theorem pcall0 {X : Cx} {CX : CXT} {x : Str} {k : Nat} {ps : List Str} {sp : Sp} {E : XK} {p pos : Pos} (C : Has X.prog X.w X.K X.mg X.base CX x k ps sp) (hr : Room k X.A) (hx : Passes CX X E) (hg : Gl X x) (hdb : (x == ("__debug__" : Str)) = false := by decide) : PE X (.Call (.Name x p) [] [] pos) (tCall sp [] E tNil) := by
  obtain ⟨f, fd, g, kp, b, ok⟩ := C.ex
  exact pe_call0 ok hr hg g kp b .nil hx hdb
section
variable {K : PySem.W.Frag} {w : World} {Γ : List En} {ta tb te : TE} {t u : TT}
/-- comprehensions of typed data -/
theorem en_lcT {α β : Type} {wi : TI} {gt : TG} {tt : TT} {vs : List Nat} (f : α → D) (c : β → D) {xs : List α} {p : α → Bool} {h : α → β} {Γ' : α → List En}
    (hs : EvI K w wi Γ (xs.map f)) (ht : ∀ x ∈ xs, TgtC K w gt vs (wipeE Γ vs) (f x) (Γ' x)) (hp : ∀ x ∈ xs, EvT K w tt (Γ' x) (p x)) (he : ∀ x ∈ xs, p x = true → EvD K w te (Γ' x) (c (h x))) (hz : xs.length ≤ 1000000) :
    EvN K w (tLc wi gt tt te vs) Γ (((xs.filter p).map h).map c) :=
  (en_lc xs f p (fun x => c (h x)) Γ' hs ht hp he hz).to (by rw [List.map_map]; rfl)
theorem en_lcmT {α β : Type} {wi : TI} {gt : TG} {vs : List Nat} (f : α → D) (c : β → D) {xs : List α} {h : α → β} {Γ' : α → List En}
    (hs : EvI K w wi Γ (xs.map f)) (ht : ∀ x ∈ xs, TgtC K w gt vs (wipeE Γ vs) (f x) (Γ' x)) (he : ∀ x ∈ xs, EvD K w te (Γ' x) (c (h x))) (hz : xs.length ≤ 1000000) :
    EvN K w (tLc wi gt tYes te vs) Γ ((xs.map h).map c) :=
  (en_lcm xs f (fun x => c (h x)) Γ' hs ht he hz).to (by rw [List.map_map]; rfl)
theorem map_self {α : Type} : ∀ xs : List α, xs.map (fun x => x) = xs
  | [] => rfl
  | x :: xs => by rw [List.map_cons, map_self xs]
theorem en_lcX {β : Type} {wi : TI} {gt : TG} {tt : TT} {vs : List Nat} (c : β → D) {xs : List D} {p : D → Bool} {h : D → β} {Γ' : D → List En}
    (hs : EvI K w wi Γ xs) (ht : ∀ x ∈ xs, TgtC K w gt vs (wipeE Γ vs) x (Γ' x)) (hp : ∀ x ∈ xs, EvT K w tt (Γ' x) (p x)) (he : ∀ x ∈ xs, p x = true → EvD K w te (Γ' x) (c (h x))) (hz : xs.length ≤ 1000000) :
    EvN K w (tLc wi gt tt te vs) Γ (((xs.filter p).map h).map c) :=
  en_lcT (fun x => x) c (by rw [map_self]; exact hs) ht hp he hz
theorem en_lcmX {β : Type} {wi : TI} {gt : TG} {vs : List Nat} (c : β → D) {xs : List D} {h : D → β} {Γ' : D → List En}
    (hs : EvI K w wi Γ xs) (ht : ∀ x ∈ xs, TgtC K w gt vs (wipeE Γ vs) x (Γ' x)) (he : ∀ x ∈ xs, EvD K w te (Γ' x) (c (h x))) (hz : xs.length ≤ 1000000) :
    EvN K w (tLc wi gt tYes te vs) Γ ((xs.map h).map c) :=
  en_lcmT (fun x => x) c (by rw [map_self]; exact hs) ht he hz
theorem rn_catT {α : Type} {c : α → D} {xs ys : List α} (hz : xs.length + ys.length ≤ 1000000) : RN K w rCat (Lc c xs) (Lc c ys) ((xs ++ ys).map c) := by
  have := rn_cat (K := K) (w := w) (xs := xs.map c) (ys := ys.map c) (by rw [List.length_map, List.length_map]; exact hz)
  rw [← List.map_append] at this
  exact this
theorem flat_map {α β : Type} (f : α → β) (xs : List α) : ∀ n : Nat, (List.replicate n (xs.map f)).flatten = ((List.replicate n xs).flatten).map f
  | 0 => rfl
  | n + 1 => by rw [List.replicate_succ, List.replicate_succ, List.flatten_cons, List.flatten_cons, flat_map f xs n, List.map_append]
theorem rn_repT {α : Type} {c : α → D} {xs : List α} {k : Int} (h1 : -(2 ^ 63) ≤ k) (h2 : k < 2 ^ 63) (hz : xs.length * k.toNat ≤ 1000000) : RN K w rRep (Lc c xs) (.int k) (((List.replicate k.toNat xs).flatten).map c) := by
  have := rn_rep (K := K) (w := w) (xs := xs.map c) h1 h2 (by rw [List.length_map]; exact hz)
  rw [flat_map] at this
  exact this
theorem en_slT {α : Type} {c : α → D} {xs : List α} {lo hi : Option Int} {t1 t2 : TO} (h : EvD K w te Γ (Lc c xs)) (h1 : EvO K w t1 Γ lo) (h2 : EvO K w t2 Γ hi) : EvN K w (tSl (rSlL K) te t1 t2) Γ ((cutD xs lo hi).map c) :=
  (en_slL h h1 h2).to (cutD_map c xs lo hi)
theorem en_revT {α : Type} {c : α → D} {xs : List α} (h : EvD K w te Γ (Lc c xs)) : EvN K w (tRevL K te) Γ (xs.reverse.map c) := (en_rev h).to (by rw [List.map_reverse])
theorem en_lst0 {α : Type} (c : α → D) : EvN K w (tLst tNil) Γ (([] : List α).map c) := en_lst ea_nil
theorem en_lst1 {α : Type} (c : α → D) {x : α} (h : EvD K w ta Γ (c x)) : EvN K w (tLst (tCons ta tNil)) Γ ([x].map c) := en_lst (ea_cons h ea_nil)
theorem en_lst2 {α : Type} (c : α → D) {x y : α} (h : EvD K w ta Γ (c x)) (h2 : EvD K w tb Γ (c y)) : EvN K w (tLst (tCons ta (tCons tb tNil))) Γ ([x, y].map c) := en_lst (ea_cons h (ea_cons h2 ea_nil))
theorem en_lst3 {α : Type} (c : α → D) {tc : TE} {x y z : α} (h : EvD K w ta Γ (c x)) (h2 : EvD K w tb Γ (c y)) (h3 : EvD K w tc Γ (c z)) : EvN K w (tLst (tCons ta (tCons tb (tCons tc tNil)))) Γ ([x, y, z].map c) := en_lst (ea_cons h (ea_cons h2 (ea_cons h3 ea_nil)))
theorem atI_map {α β : Type} (f : α → β) {xs : List α} {i : Int} {x : α} (h : atI xs i = some x) : atI (xs.map f) i = some (f x) := by
  unfold atI at h ⊢
  rw [List.length_map]
  cases q : ixN xs.length i with
  | none =>
    rw [q] at h
    cases h
  | some j =>
    rw [q] at h
    show (xs.map f)[j]? = some (f x)
    rw [List.getElem?_map, show xs[j]? = some x from h]
    rfl
theorem rd_ixLT {α : Type} {c : α → D} {xs : List α} {i : Int} {x : α} (h : atI xs i = some x) : RD K w (rIx2 K) (Lc c xs) (.int i) (c x) := rd_ixL (atI_map c h)
theorem cd_lenC {α : Type} {c : α → D} {xs : List α} : CD K w (rLenA K w) [Lc c xs] (.int xs.length) := by
  have := cd_len (K := K) (w := w) (ds := xs.map c)
  rw [List.length_map] at this
  exact this
/-- place and item -/
def enumI {α : Type} (xs : List α) : List (Int × α) := xs.zipIdx.map fun q => ((q.2 : Int), q.1)
theorem enumD_map {α : Type} (c : α → D) (xs : List α) : enumD (xs.map c) = (enumI xs).map (Tp2 D.int c) := by
  unfold enumD enumI
  rw [List.zipIdx_map, List.map_map, List.map_map]
  rfl
theorem ei_enumT {α : Type} {c : α → D} {tl : TE} {xs : List α} (h : EvD K w tl Γ (Lc c xs)) : EvI K w (iEnum K (tCons tl tNil)) Γ ((enumI xs).map (Tp2 D.int c)) := enumD_map c xs ▸ ei_enum h
theorem zipD_map {α β : Type} (c : α → D) (e : β → D) (xs : List α) (ys : List β) : zipD (xs.map c) (ys.map e) = (xs.zip ys).map (Tp2 c e) := by
  unfold zipD
  rw [List.zip_map, List.map_map]
  rfl
theorem ei_zipT {α β : Type} {c : α → D} {e : β → D} {tl tm : TE} {xs : List α} {ys : List β} (h : EvD K w tl Γ (Lc c xs)) (h' : EvD K w tm Γ (Lc e ys)) : EvI K w (iZip K (tCons tl (tCons tm tNil))) Γ ((xs.zip ys).map (Tp2 c e)) := zipD_map c e xs ys ▸ ei_zip h h'
theorem deqs_scr : ∀ ns : List Int, PyData.eqvAll (ns.map PyData.int) [] = decide (ns = [])
  | [] => rfl
  | n :: ns => by simp [PyData.eqvAll]
theorem rd_neNilS {ns : List Int} : RD K w (rNeD K) (.scr ns) (.lst []) (.bl (!decide (ns = []))) := by
  have := rd_ne (K := K) (w := w) (a := .scr ns) (b := .lst []) (ok_of (n := 1) (by rfl)) (by rfl)
  rw [show deq (.scr ns) (.lst []) = PyData.eqvAll (ns.map PyData.int) [] from rfl, deqs_scr] at this
  exact this
theorem cut_to {α : Type} (xs : List α) (n : Nat) : cutD xs none (some (n : Int)) = xs.take n := by
  unfold cutD
  rw [HT.sIx_none, HT.sIx_nat, List.drop_zero, Nat.sub_zero]
  by_cases h : n ≤ xs.length
  · rw [Nat.min_eq_left h]
  · rw [Nat.min_eq_right (by omega), List.take_length, List.take_of_length_le (by omega)]
theorem cut_from {α : Type} (xs : List α) (n : Nat) : cutD xs (some (n : Int)) none = xs.drop n := by
  unfold cutD
  rw [HT.sIx_none, HT.sIx_nat]
  by_cases h : n ≤ xs.length
  · rw [Nat.min_eq_left h, List.take_of_length_le (by rw [List.length_drop]; omega)]
  · rw [Nat.min_eq_right (by omega), List.drop_length, List.drop_eq_nil_of_le (by omega)]
    simp
theorem ev_ifC {β : Type} (c : β → D) {b : Bool} {x y : β} (h : EvT K w t Γ b) (h1 : b = true → EvD K w ta Γ (c x)) (h2 : b = false → EvD K w tb Γ (c y)) : EvD K w (tIf t ta tb) Γ (c (if b = true then x else y)) :=
  ev_if h (fun e => by rw [if_pos e]; exact h1 e) (fun e => by rw [if_neg (by rw [e]; exact Bool.false_ne_true)]; exact h2 e)
theorem ev_tup2 {α β : Type} (c : α → D) (e : β → D) {x : α} {y : β} (h1 : EvD K w ta Γ (c x)) (h2 : EvD K w tb Γ (e y)) : EvD K w (tTup (tCons ta (tCons tb tNil))) Γ (Tp2 c e (x, y)) := ev_tup (ea_cons h1 (ea_cons h2 ea_nil))
theorem ev_tup3 {α β γ : Type} (c : α → D) (e : β → D) (f : γ → D) {tc : TE} {x : α} {y : β} {z : γ} (h1 : EvD K w ta Γ (c x)) (h2 : EvD K w tb Γ (e y)) (h3 : EvD K w tc Γ (f z)) : EvD K w (tTup (tCons ta (tCons tb (tCons tc tNil)))) Γ (Tp3 c e f (x, y, z)) := ev_tup (ea_cons h1 (ea_cons h2 (ea_cons h3 ea_nil)))
theorem sv_asg2T {α β : Type} {c : α → D} {e : β → D} {p : α × β} {i j : Nat} (h : EvD K w te Γ (Tp2 c e p)) : Sv K w (tAsg te (gTup K 2 (gCons (gName i) (gCons (gName j) gNil)))) Γ (.nx ((Γ.set i (.im (c p.1))).set j (.im (e p.2)))) := sv_asg2 h
theorem ev_neg {i : Int} (h : EvD K w te Γ (.int i)) : EvD K w (tUn (rU fun i => .int (-i)) te) Γ (.int (-i)) := fun σ G H S Q q => h σ G H S _ fun v G2 H2 g hb => by
  cases hb
  exact ⟨i, rfl, q _ G2 H2 g (.int _)⟩
theorem cd_max2 {i j : Int} : CD K w (fun xs H Q => ∃ i j, xs = [.int i, .int j] ∧ Q (.int (if j > i then j else i)) H) [.int i, .int j] (.int (if j > i then j else i)) := fun G H vs e h Q q => by
  obtain ⟨x, y, rfl, h1, h2⟩ := be2 h
  cases h1
  cases h2
  exact ⟨i, j, rfl, q _ G H (Grow.refl e) (.int _)⟩
/-- is None, is True -/
theorem rd_isN {d : D} : RD K w rIsN d .non (.bl (match d with | .non => true | _ => false)) := fun G H x y e h1 h2 Q q => by
  cases h2
  refine ⟨rfl, ?_⟩
  cases h1 <;> exact q _ G H (Grow.refl e) (.bl _)
theorem rd_notN {d : D} : RD K w rNotN d .non (.bl (!(match d with | .non => true | _ => false))) := fun G H x y e h1 h2 Q q => by
  cases h2
  refine ⟨rfl, ?_⟩
  cases h1 <;> exact q _ G H (Grow.refl e) (.bl _)
theorem rd_isB {a b : Bool} : RD K w rIsB (.bl a) (.bl b) (.bl (decide (a = b))) := fun G H x y e h1 h2 Q q => by
  cases h1
  cases h2
  exact ⟨a, b, rfl, rfl, q _ G H (Grow.refl e) (.bl _)⟩
theorem rd_notB {a b : Bool} : RD K w rNotB (.bl a) (.bl b) (.bl (!decide (a = b))) := fun G H x y e h1 h2 Q q => by
  cases h1
  cases h2
  exact ⟨a, b, rfl, rfl, q _ G H (Grow.refl e) (.bl _)⟩
end
/-! a product of great ints -/
def CMulB (i j : Int) : Prop := ∃ m n : Nat, Builtin.Int.intBits i ≤ m ∧ Builtin.Int.intBits j ≤ n ∧ m + n ≤ 134217728
theorem CMulB.ok {i j : Int} (h : CMulB i j) : IntMulOk i j := by
  obtain ⟨m, n, h1, h2, h3⟩ := h
  exact IntMulOk.of_le h1 h2 h3
theorem op_mulB {X : Cx} : OpR X (binaryOp .Mult) (rI CMulB fun i j => .int (i * j)) := opI fun _ _ _ _ _ _ _ hc q => mul_int q hc.ok
theorem rd_mulB {K : PySem.W.Frag} {w : World} {i j : Int} (h : CMulB i j) : RD K w (rI CMulB fun i j => .int (i * j)) (.int i) (.int j) (.int (i * j)) := rd_I h fun _ => .int _
/-! the built-ins' values -/
theorem bt_any : bootBuiltins "any" = some (.builtin "any") := by decide +kernel
theorem bt_all : bootBuiltins "all" = some (.builtin "all") := by decide +kernel
theorem bt_sum : bootBuiltins "sum" = some (.builtin "sum") := by decide +kernel
theorem bt_max : bootBuiltins "max" = some (.builtin "max") := by decide +kernel
theorem bt_min : bootBuiltins "min" = some (.builtin "min") := by decide +kernel
theorem bt_sorted : bootBuiltins "sorted" = some (.builtin "sorted") := by decide +kernel
theorem bt_isinstance : bootBuiltins "isinstance" = some (.builtin "isinstance") := by decide +kernel
theorem bt_set : bootBuiltins "set" = some (.type "set") := by decide +kernel
theorem bt_list : bootBuiltins "list" = some (.type "list") := by decide +kernel
theorem bt_int : bootBuiltins "int" = some (.type "int") := by decide +kernel
theorem bt_bool : bootBuiltins "bool" = some (.type "bool") := by decide +kernel
theorem bt_tuple : bootBuiltins "tuple" = some (.type "tuple") := by decide +kernel
theorem bt_str : bootBuiltins "str" = some (.type "str") := by decide +kernel
end Lh
set_option Elab.async false
set_option linter.all false
set_option maxRecDepth 100000
set_option maxHeartbeats 4000000
/-! Lh: the rules with the written part K (and the world w) named, so that a reading does not lean on a block's context -/
namespace Lh
open PySem L2 PyProof.Rows
section
variable {X : Cx} (K : PySem.W.Frag) (w : World)
theorem kAny (hc : X.calm = true) (e : X.K = K := by rfl) : CallR X (.builtin "any") (rAny K) := e ▸ cr_any hc
theorem kAll (hc : X.calm = true) (e : X.K = K := by rfl) : CallR X (.builtin "all") (rAll K) := e ▸ cr_all hc
theorem kSum (hc : X.calm = true) (e : X.K = K := by rfl) : CallR X (.builtin "sum") (rSum K) := e ▸ cr_sum hc
theorem kMaxD (hc : X.calm = true) (e : X.K = K := by rfl) : CallRK X (.builtin "max") [Str.ofString "default"] (rMaxD K) := e ▸ cr_maxD hc
theorem kMinD (hc : X.calm = true) (e : X.K = K := by rfl) : CallRK X (.builtin "min") [Str.ofString "default"] (rMinD K) := e ▸ cr_minD hc
theorem kSetL (hc : X.calm = true) (e : X.K = K := by rfl) (e2 : X.w = w := by rfl) : CallR X (.type "set") (rSetL K w) := e ▸ e2 ▸ cr_setL hc
theorem kLen (e : X.K = K := by rfl) (e2 : X.w = w := by rfl) : CallR X (.builtin "len") (rLenA K w) := e ▸ e2 ▸ cr_lenA
theorem kSorted (hc : X.calm = true) (e : X.K = K := by rfl) (e2 : X.w = w := by rfl) : CallR X (.builtin "sorted") (rSortedA K w) := e ▸ e2 ▸ cr_sortedA hc
theorem kList (e : X.K = K := by rfl) : CallR X (.type "list") (rListC K) := e ▸ call_listC
theorem kIsi (e : X.K = K := by rfl) : CallR X (.builtin "isinstance") (rIsi K) := e ▸ call_isi
theorem kIn (e : X.K = K := by rfl) : OpR X (compareOp .In) (rIn K false) := e ▸ op_in_seq
theorem kNin (e : X.K = K := by rfl) : OpR X (compareOp .NotIn) (rIn K true) := e ▸ op_notIn_seq
theorem kEq (hu : X.A.units + 64 < cLine) (e : X.K = K := by rfl) : OpR X (compareOp .Eq) (rEqD K) := e ▸ op_eqD hu
theorem kNe (hu : X.A.units + 64 < cLine) (e : X.K = K := by rfl) : OpR X (compareOp .NotEq) (rNeD K) := e ▸ op_neD hu
theorem kIx (e : X.K = K := by rfl) : IxR X (rIx2 K) := e ▸ ix_two
theorem kSl (e : X.K = K := by rfl) : SlR X (rSlL K) := e ▸ sl_list
theorem kIList {tg l : Expr} {tl : TE} (hl : PE X l tl) (e : X.K = K := by rfl) : PI X tg l (iList K tl) := e ▸ pi_list hl
theorem kITup {tg l : Expr} {tl : TE} (hl : PE X l tl) (e : X.K = K := by rfl) : PI X tg l (iTup K tl) := e ▸ pi_tup hl
theorem kIEnum {e : Expr} {ta : TA} {p pos tpos : Pos} {elts : List Expr} {kk : Nat} (hg : Gl X "enumerate") (hm : X.mg "enumerate" = none) (ha : PA X [e] ta) (hs : starEach [e] X.env = [(false, eval e X.env)] := by rfl) (eK : X.K = K := by rfl) :
    PI X (.Tuple elts kk tpos) (.Call (.Name "enumerate" p) [e] [] pos) (iEnum K ta) := eK ▸ pi_enum hg hm ha hs
theorem kIZip {e e2 : Expr} {ta : TA} {p pos tpos : Pos} {elts : List Expr} {kk : Nat} (hg : Gl X "zip") (hm : X.mg "zip" = none) (ha : PA X [e, e2] ta)
    (hs : starEach [e, e2] X.env = (false, eval e X.env) :: starEach [e2] X.env := by rfl) (hpl : (backTo pos (starEach [e2] X.env)).any (·.1) = false := by rfl) (eK : X.K = K := by rfl) :
    PI X (.Tuple elts kk tpos) (.Call (.Name "zip" p) [e, e2] [] pos) (iZip K ta) := eK ▸ pi_zip hg hm ha hs hpl
theorem kTup {pos : Pos} {es : List Expr} {k : Nat} {t : TGs} {n : Nat} (hc : X.calm = true) (h : PGs X es t)
    (hn : (assignEach es X.env).length = n := by rfl) (hst : (assignEach es X.env).findIdx? (·.1) = none := by rfl) (e : X.K = K := by rfl) : PG X (.Tuple es k pos) (gTup K n t) := e ▸ pg_tup hc h hn hst
theorem kRev {e : Expr} {te : TE} {k : Nat} {p1 p2 p3 pos : Pos} (he : PE X e te) (eK : X.K = K := by rfl) : PE X (.Subscript e (.Slice none none (some (.UnaryOp .USub (.Constant (.int 1) k p1) p2)) p3) pos) (tRevL K te) := eK ▸ pe_revL he
theorem kFld {e : Expr} {f : Str} {pos : Pos} {ta : TE} (he : PE X e ta) (hb : attributeBase e f X.env (eval e X.env) = eval e X.env) (eK : X.K = K := by rfl) : PE X (.Attribute e f pos) (tFld K ta f) := eK ▸ pe_fld he hb
/-- a method of a list -/
theorem kBm {o e : Expr} {es : List Expr} {to : TE} {t : TA} {name : Str} {apos cpos : Pos} {id : String} {r : V → List V → Hp → VK → Prop} (slot : Slot "list" name id) (hty : typeOf (.builtin id) = pure (.type "method_descriptor")) (hm : MtR X id r) (ho : PE X o to) (ha : PA X (e :: es) t)
    (hbase : attributeBase o name X.env (eval o X.env) = eval o X.env := by rfl)
    (hfew : ((backTo cpos (starEach (e :: es) X.env)).all (fun x => !x.1) && (backToKw cpos (keywordEach [] X.env)).all (fun x => x.1.isSome)
      && decide ((e :: es).length + ([] : List Keyword).length + (if ([] : List Keyword).isEmpty then 0 else 1) < 30)) = true := by rfl)
    (hline : (apos.endLine == cpos.line) = true := by rfl) (hs : starEach (e :: es) X.env = (false, eval e X.env) :: starEach es X.env := by rfl) (hplain : (backTo cpos (starEach es X.env)).any (·.1) = false := by rfl) (eK : X.K = K := by rfl) :
    PE X (.Call (.Attribute o name apos) (e :: es) [] cpos) (tBM K "list" r to t) := eK ▸ pe_bm PySem.F.plainAttrs_list slot hty hm ho ha hbase hfew hline hs hplain
theorem kBm0 {o : Expr} {to : TE} {name : Str} {apos cpos : Pos} {id : String} {r : V → List V → Hp → VK → Prop} (slot : Slot "list" name id) (hty : typeOf (.builtin id) = pure (.type "method_descriptor")) (hm : MtR X id r) (ho : PE X o to)
    (hbase : attributeBase o name X.env (eval o X.env) = eval o X.env := by rfl) (hline : (apos.endLine == cpos.line) = true := by rfl) (eK : X.K = K := by rfl) : PE X (.Call (.Attribute o name apos) [] [] cpos) (tBM0 K "list" r to) := eK ▸ pe_bm0 PySem.F.plainAttrs_list slot hty hm ho hbase hline
theorem kAppend {o e : Expr} {to te : TE} {apos cpos : Pos} (ho : PE X o to) (ha : PE X e te)
    (hbase : attributeBase o "append" X.env (eval o X.env) = eval o X.env := by rfl)
    (hfew : ((backTo cpos (starEach (e :: []) X.env)).all (fun x => !x.1) && (backToKw cpos (keywordEach [] X.env)).all (fun x => x.1.isSome)
      && decide ((e :: []).length + ([] : List Keyword).length + (if ([] : List Keyword).isEmpty then 0 else 1) < 30)) = true := by rfl)
    (hline : (apos.endLine == cpos.line) = true := by rfl) (hs : starEach (e :: []) X.env = (false, eval e X.env) :: starEach [] X.env := by rfl) (hplain : (backTo cpos (starEach [] X.env)).any (·.1) = false := by rfl) (eK : X.K = K := by rfl) :
    PE X (.Call (.Attribute o "append" apos) [e] [] cpos) (tBM K "list" rAppend to (tCons te tNil)) := kBm K PySem.F.slot_list_append PySem.F.type_list_append mt_append ho (pa_cons ha pa_nil hs) hbase hfew hline hs hplain eK
theorem kExtend {o e : Expr} {to te : TE} {apos cpos : Pos} (ho : PE X o to) (ha : PE X e te)
    (hbase : attributeBase o "extend" X.env (eval o X.env) = eval o X.env := by rfl)
    (hfew : ((backTo cpos (starEach (e :: []) X.env)).all (fun x => !x.1) && (backToKw cpos (keywordEach [] X.env)).all (fun x => x.1.isSome)
      && decide ((e :: []).length + ([] : List Keyword).length + (if ([] : List Keyword).isEmpty then 0 else 1) < 30)) = true := by rfl)
    (hline : (apos.endLine == cpos.line) = true := by rfl) (hs : starEach (e :: []) X.env = (false, eval e X.env) :: starEach [] X.env := by rfl) (hplain : (backTo cpos (starEach [] X.env)).any (·.1) = false := by rfl) (eK : X.K = K := by rfl) :
    PE X (.Call (.Attribute o "extend" apos) [e] [] cpos) (tBM K "list" rExtend to (tCons te tNil)) := kBm K PySem.F.slot_list_extend PySem.F.type_list_extend mt_extend ho (pa_cons ha pa_nil hs) hbase hfew hline hs hplain eK
end
end Lh
set_option Elab.async false
set_option linter.all false
set_option maxRecDepth 100000
set_option maxHeartbeats 4000000
/-! Lh: isinstance; what raises -/
namespace Lh
open PySem L2 PyProof.Rows
open Evl (Ex ex_l ex_t sz_of sz_lt)
/-- the built-in type of data -/
def tyD : D → Option String
  | .non => some "NoneType" | .bl _ => some "bool" | .int _ => some "int" | .str _ => some "str"
  | .lst _ => some "list" | .tup _ => some "tuple" | .dct => some "dict"
  | _ => none
section
variable {K : PySem.W.Frag} {w : World} {Γ : List En} {te : TE} {d : D}
theorem be_ty {G H : Hp} {x : V} {T : String} (e : Ex G H) (h : Be K w G x d) (t : tyD d = some T) : TyX K H x (.type T) := by
  cases h with
  | non => cases t; exact .base .non
  | bl b => cases t; exact .base (.bl b)
  | int i => cases t; exact .base (.int i)
  | str s => cases t; exact .base (.str s)
  | lst a b => cases t; exact .base (.lst (e _ _ a))
  | tup a b => cases t; exact .base (.tup (e _ _ a))
  | dct a => cases t; exact .base (.dK (e _ _ a))
  | obj a b => cases t
  | set a => cases t
  | scr a => cases t
  | ty n => cases t
  | adr a => cases t
/-- isinstance(x, a built-in type) -/
theorem cd_isT {T C : String} {b : Bool} (t : tyD d = some T) (h : kitB T C = some b) : CD K w (rIsi K) [d, .ty C] (.bl b) := fun G H vs e h' Q q => by
  obtain ⟨x, y, rfl, h1, h2⟩ := be2 h'
  cases h2
  exact ⟨x, .ty C, .type T, .type C, b, rfl, .ty C, be_ty e h1 t, kit_ty h, q _ G H (Grow.refl e) (.bl _)⟩
theorem ev_ty {n : String} : EvD K w (tC (.ty n)) Γ (.ty n) := fun σ G H S Q q => q _ G H (Grow.refl S.ex) (.ty n)
theorem ev_adr {a : Addr} : EvD K w (tC (.ref a)) Γ (.adr a) := fun σ G H S Q q => q _ G H (Grow.refl S.ex) (.adr a)
def isI : D → Bool
  | .int _ => true | .bl _ => true | _ => false
def isB : D → Bool
  | .bl _ => true | _ => false
def isLst : D → Bool
  | .lst _ => true | _ => false
def isTup : D → Bool
  | .tup _ => true | _ => false
def isStr : D → Bool
  | .str _ => true | _ => false
theorem cd_isInt (t : (tyD d).isSome = true) : CD K w (rIsi K) [d, .ty "int"] (.bl (isI d)) := by
  cases d with
  | non => exact cd_isT (b := false) rfl (by decide +kernel)
  | bl b => exact cd_isT (b := true) rfl (by decide +kernel)
  | int i => exact cd_isT (b := true) rfl (by decide +kernel)
  | str s => exact cd_isT (b := false) rfl (by decide +kernel)
  | lst a => exact cd_isT (b := false) rfl (by decide +kernel)
  | tup a => exact cd_isT (b := false) rfl (by decide +kernel)
  | dct => exact cd_isT (b := false) rfl (by decide +kernel)
  | _ => cases t
theorem cd_isBool (t : (tyD d).isSome = true) : CD K w (rIsi K) [d, .ty "bool"] (.bl (isB d)) := by
  cases d with
  | non => exact cd_isT (b := false) rfl (by decide +kernel)
  | bl b => exact cd_isT (b := true) rfl (by decide +kernel)
  | int i => exact cd_isT (b := false) rfl (by decide +kernel)
  | str s => exact cd_isT (b := false) rfl (by decide +kernel)
  | lst a => exact cd_isT (b := false) rfl (by decide +kernel)
  | tup a => exact cd_isT (b := false) rfl (by decide +kernel)
  | dct => exact cd_isT (b := false) rfl (by decide +kernel)
  | _ => cases t
theorem cd_isList (t : (tyD d).isSome = true) : CD K w (rIsi K) [d, .ty "list"] (.bl (isLst d)) := by
  cases d with
  | non => exact cd_isT (b := false) rfl (by decide +kernel)
  | bl b => exact cd_isT (b := false) rfl (by decide +kernel)
  | int i => exact cd_isT (b := false) rfl (by decide +kernel)
  | str s => exact cd_isT (b := false) rfl (by decide +kernel)
  | lst a => exact cd_isT (b := true) rfl (by decide +kernel)
  | tup a => exact cd_isT (b := false) rfl (by decide +kernel)
  | dct => exact cd_isT (b := false) rfl (by decide +kernel)
  | _ => cases t
theorem cd_isTuple (t : (tyD d).isSome = true) : CD K w (rIsi K) [d, .ty "tuple"] (.bl (isTup d)) := by
  cases d with
  | non => exact cd_isT (b := false) rfl (by decide +kernel)
  | bl b => exact cd_isT (b := false) rfl (by decide +kernel)
  | int i => exact cd_isT (b := false) rfl (by decide +kernel)
  | str s => exact cd_isT (b := false) rfl (by decide +kernel)
  | lst a => exact cd_isT (b := false) rfl (by decide +kernel)
  | tup a => exact cd_isT (b := true) rfl (by decide +kernel)
  | dct => exact cd_isT (b := false) rfl (by decide +kernel)
  | _ => cases t
theorem cd_isStr (t : (tyD d).isSome = true) : CD K w (rIsi K) [d, .ty "str"] (.bl (isStr d)) := by
  cases d with
  | non => exact cd_isT (b := false) rfl (by decide +kernel)
  | bl b => exact cd_isT (b := false) rfl (by decide +kernel)
  | int i => exact cd_isT (b := false) rfl (by decide +kernel)
  | str s => exact cd_isT (b := true) rfl (by decide +kernel)
  | lst a => exact cd_isT (b := false) rfl (by decide +kernel)
  | tup a => exact cd_isT (b := false) rfl (by decide +kernel)
  | dct => exact cd_isT (b := false) rfl (by decide +kernel)
  | _ => cases t
end

/-! ### what raises -/
/-- a class of errors of the text without a text of its own -/
structure ExcC (K : PySem.W.Frag) (mg : Str → Option Value) (x : Str) (C : Addr) : Prop where
  g : mg x = some (.ref C)
  q : PySem.W.excIn K C [.type "ValueError", .type "Exception", .type "BaseException", .type "object"] "ValueError.__new__" = true
  k : PySem.W.keepIn K (.ref C) = true
  b : PySem.W.subIn K (.ref C) (.type "BaseException") = some true
  t : PySem.W.typeIn K (.ref C) = some (.type "type")
/-- on data ds: a value that bears d, or an error of the class at C -/
def spX (K : PySem.W.Frag) (w : World) (R : List D → D → Prop) (RE : List D → Addr → Prop) : Sp := fun vs H Q E => ∃ G ds, Ex G H ∧ BeAll K w G vs ds ∧
  ((∃ d, R ds d ∧ ∀ v G2 H2, Grow G G2 H H2 → Be K w G2 v d → Q v H2) ∨ (∃ C, RE ds C ∧ ∀ H2, Ex H H2 → E (.ref C) none H2))
/-- as spX, with a new list -/
def spXN (K : PySem.W.Frag) (w : World) (R : List D → List D → Prop) (RE : List D → Addr → Prop) : Sp := fun vs H Q E => ∃ G ds, Ex G H ∧ BeAll K w G vs ds ∧
  ((∃ es, R ds es ∧ ∀ p xs G2 H2, Grow G G2 H H2 → H p = none → G2 p = none → H2 p = some (.lst xs) → BeAll K w G2 xs es → Q (.ref p) H2) ∨ (∃ C, RE ds C ∧ ∀ H2, Ex H H2 → E (.ref C) none H2))
/-- a statement that raises an error of the class at C -/
def Rz (K : PySem.W.Frag) (w : World) (E : XK) (t : TS) (Γ : List En) (C : Addr) : Prop :=
  ∀ σ G H (D : Ends), Stt K w Γ σ G H → (∀ H2, (∀ a o, H a = some o → ¬ own Γ σ a → H2 a = some o) → E (.ref C) none H2) → t D σ H
section
variable {K : PySem.W.Frag} {w : World} {Γ Γ2 : List En} {E : XK} {t u : TS} {te : TE} {tt : TT} {C : Addr} {ds : List D} {d : D} {R : List D → D → Prop} {RN : List D → List D → Prop} {RE : List D → Addr → Prop} {ta : TA}
theorem rz_seq (h : Rz K w E t Γ C) : Rz K w E (tSeq t u) Γ C := fun σ G H D S q => h σ G H { D with nx := u D } S q
theorem rz_seq2 (h : Sv K w t Γ (.nx Γ2)) (h2 : Rz K w E u Γ2 C) : Rz K w E (tSeq t u) Γ C := fun σ G H D S q =>
  h σ G H { D with nx := u D } S fun σ' G2 H2 g S2 ho => h2 σ' G2 H2 D S2 fun H3 k => q H3 fun a o ha hn => k a o (g.r a o ha hn) fun z => by
    rcases ho a z with z | z
    · exact hn z
    · rw [ha] at z
      cases z
theorem rz_if {b : Bool} (h : EvT K w tt Γ b) (h1 : b = true → Rz K w E t Γ C) (h2 : b = false → Rz K w E u Γ C) : Rz K w E (tIfS tt t u) Γ C := fun σ G H D S q => h σ G H S _ fun G2 H2 g => by
  have q2 : ∀ H3, (∀ a o, H2 a = some o → ¬ own Γ σ a → H3 a = some o) → E (.ref C) none H3 := fun H3 k => q H3 fun a o ha hn => k a o (g.r a o ha) hn
  cases b with
  | true => exact h1 rfl σ G2 H2 D (S.grow g) q2
  | false => exact h2 rfl σ G2 H2 D (S.grow g) q2
theorem rz_raise : Rz K w E (fun _ σ H => (fun _ H (Q : XK) => Q (.ref C) none H) σ H fun cls d H' => E cls d H') Γ C := fun σ G H D S q => q H fun a o ha _ => ha
/-- f(..) as a statement, f may raise -/
theorem sv_dropX (h : EvA K w ta Γ ds) (hr : R ds d) : Sv K w (tDrop (tCall (spX K w R RE) [] E ta)) Γ (.nx Γ) := fun σ G H D S q => h σ G H S _ fun vs G2 H2 g hb =>
  ⟨G2, ds, g.s, by rw [List.append_nil]; exact hb, .inl ⟨d, hr, fun v G3 H3 g3 _ => q σ G3 H3 (g.trans g3).gs (S.grow (g.trans g3)) fun a ha => .inl ha⟩⟩
theorem rz_dropX (h : EvA K w ta Γ ds) (hr : RE ds C) : Rz K w E (tDrop (tCall (spX K w R RE) [] E ta)) Γ C := fun σ G H D S q => h σ G H S _ fun vs G2 H2 g hb =>
  ⟨G2, ds, g.s, by rw [List.append_nil]; exact hb, .inr ⟨C, hr, fun H3 k => q H3 fun a o ha _ => k a o (g.r a o ha)⟩⟩
/-- .. as a value, where it does not raise -/
theorem ev_callX {E' : XK} (h : EvA K w ta Γ ds) (hr : R ds d) : EvD K w (tCall (spX K w R RE) [] E' ta) Γ d := fun σ G H S Q q => h σ G H S _ fun vs G2 H2 g hb =>
  ⟨G2, ds, g.s, by rw [List.append_nil]; exact hb, .inl ⟨d, hr, fun v G3 H3 g3 b3 => q v G3 H3 (g.trans g3) b3⟩⟩
theorem en_callX {E' : XK} {es : List D} (h : EvA K w ta Γ ds) (hr : RN ds es) : EvN K w (tCall (spXN K w RN RE) [] E' ta) Γ es := fun σ G H S Q q => h σ G H S _ fun vs G2 H2 g hb =>
  ⟨G2, ds, g.s, by rw [List.append_nil]; exact hb, .inl ⟨es, hr, fun p xs G3 H3 g3 hp gp h3 b3 => q p xs G3 H3 (g.trans g3) (Evl.fresh_back g.r hp) gp h3 b3⟩⟩
theorem body_rz {N : List Str} {vs : List V} {Q : VK} {G H : Hp} (h : Rz K w E t (ent N.length ds) C) (e : Ex G H) (hb : BeAll K w G vs ds) (hl : ds.length ≤ N.length) (q : ∀ H2, Ex H H2 → E (.ref C) none H2) :
    t { nx := fun _ H' => Q .non H', rt := Q } (L2.start N vs) H :=
  h _ G H _ (stt_start e hb hl) fun H2 k => q H2 fun a o ha => k a o ha ent_none
end
section
variable {P : Program} {w : World} {K : PySem.W.Frag} {mg : Str → Option Value} {base : Heap} {x qual : Str} {st : Stmt} {f : Addr} {fd : FuncData} {N ps : List Str} {k : Nat}
/-- raise X('..') -/
theorem kRaise {X : Cx} {xn m : Str} {j : Nat} {p p2 pos rpos : Pos} {C : Addr} {W : WX} (c : ExcC X.K X.mg xn C) (hc : X.calm = true) (tk : Takes X W) (hg : Gl X xn) (hdb : (xn == ("__debug__" : Str)) = false := by decide) :
    PS X (.Raise (some (.Call (.Name xn p) [.Constant (.str m) j p2] [] pos)) none rpos) (fun _ σ H => (fun _ H (Q : XK) => Q (.ref C) none H) σ H fun cls d H' => W cls d σ H') :=
  ps_raise hc tk (pmk_own PySem.F.excBase_ValueError c.q c.g c.k (raises_own c.b c.t) hg hdb)
/-- a def that may raise -/
theorem fn_X {R : List D → D → Prop} {RE : List D → Addr → Prop} (F : Fun K x qual st f fd) (S : FnScope N ps (defScope st)) (hR : ∀ ds d, R ds d → ds.length = ps.length) (hE : ∀ ds C, RE ds C → ds.length = ps.length)
    (h : ∀ (cdv : Value) (A : Around) (outer : List Env) (s : Shared) (H : Hp) (E : XK), Room k (A.deeper (envOfC qual (defScope st) s.heap.objs.size f cdv)) →
      ∃ t, PSs (cxOf (L2.CX P w) P w K mg base N qual (defScope st) f cdv A outer s H E) (defBody st) t ∧ (∀ ds d, R ds d → Sv K w t (ent N.length ds) (.rt d) ∨ ((∃ Γ', Sv K w t (ent N.length ds) (.nx Γ')) ∧ d = .non)) ∧ (∀ ds C, RE ds C → Rz K w E t (ent N.length ds) C)) : FnOk P w K mg base (L2.CX P w) (k + 1) f fd ps (spX K w R RE) := by
  have hp : ps.length ≤ N.length := by
    have := congrArg List.length S.pre
    rw [List.length_take] at this
    omega
  refine F.okX S (fun vs H Q E hs => ?_) (fun cdv A outer s H vs Q E hr hs => ?_)
  · obtain ⟨G, ds, _, hb, hs⟩ := hs
    rcases hs with ⟨d, hr, _⟩ | ⟨C, hr, _⟩
    · rw [hb.length, hR ds d hr]
    · rw [hb.length, hE ds C hr]
  · obtain ⟨t, ht, hv, hz⟩ := h cdv A outer s H E hr
    obtain ⟨G, ds, e, hb, hs⟩ := hs
    refine ⟨t, ht, ?_⟩
    rcases hs with ⟨d, hr, q⟩ | ⟨C, hr, q⟩
    · rcases hv ds d hr with hv | ⟨⟨Γ', hv⟩, rfl⟩
      · exact body_rt hv e hb (by rw [hR ds d hr]; exact hp) q
      · exact body_nx hv e hb (by rw [hR ds _ hr]; exact hp) q
    · exact body_rz (hz ds C hr) e hb (by rw [hE ds C hr]; exact hp) q
theorem fn_XN {R : List D → List D → Prop} {RE : List D → Addr → Prop} (F : Fun K x qual st f fd) (S : FnScope N ps (defScope st)) (hR : ∀ ds d, R ds d → ds.length = ps.length) (hE : ∀ ds C, RE ds C → ds.length = ps.length)
    (h : ∀ (cdv : Value) (A : Around) (outer : List Env) (s : Shared) (H : Hp) (E : XK), Room k (A.deeper (envOfC qual (defScope st) s.heap.objs.size f cdv)) →
      ∃ t, PSs (cxOf (L2.CX P w) P w K mg base N qual (defScope st) f cdv A outer s H E) (defBody st) t ∧ (∀ ds d, R ds d → Sv K w t (ent N.length ds) (.rn d)) ∧ (∀ ds C, RE ds C → Rz K w E t (ent N.length ds) C)) : FnOk P w K mg base (L2.CX P w) (k + 1) f fd ps (spXN K w R RE) := by
  have hp : ps.length ≤ N.length := by
    have := congrArg List.length S.pre
    rw [List.length_take] at this
    omega
  refine F.okX S (fun vs H Q E hs => ?_) (fun cdv A outer s H vs Q E hr hs => ?_)
  · obtain ⟨G, ds, _, hb, hs⟩ := hs
    rcases hs with ⟨d, hr, _⟩ | ⟨C, hr, _⟩
    · rw [hb.length, hR ds d hr]
    · rw [hb.length, hE ds C hr]
  · obtain ⟨t, ht, hv, hz⟩ := h cdv A outer s H E hr
    obtain ⟨G, ds, e, hb, hs⟩ := hs
    refine ⟨t, ht, ?_⟩
    rcases hs with ⟨d, hr, q⟩ | ⟨C, hr, q⟩
    · exact body_rn (hv ds d hr) e hb (by rw [hR ds d hr]; exact hp) q
    · exact body_rz (hz ds C hr) e hb (by rw [hE ds C hr]; exact hp) q
end
end Lh
set_option Elab.async false
set_option linter.all false
set_option maxRecDepth 100000
set_option maxHeartbeats 4000000
/-! Lh: == with itself; index; slices from behind -/
namespace Lh
open PySem L2 PyProof.Rows
open Evl (Ex ex_l ex_t sz_of sz_lt)
theorem eqv_ints : ∀ ns : List Int, PyData.eqvAll (ns.map PyData.int) (ns.map PyData.int) = true
  | [] => rfl
  | n :: ns => by
    show ((n == n) && PyData.eqvAll (ns.map PyData.int) (ns.map PyData.int)) = true
    rw [eqv_ints ns]
    simp
mutual
theorem deq_refl : ∀ d : D, deq d d = true
  | .non => rfl
  | .bl b => by cases b <;> rfl
  | .int i => by rw [deq_int]; simp
  | .str s => by
    show (s == s) = true
    simp
  | .lst xs => deqs_self xs
  | .tup xs => deqs_self xs
  | .scr ns => eqv_ints ns
  | .dct => rfl
  | .obj _ _ _ => rfl
  | .set _ => rfl
  | .ty _ => rfl
  | .adr _ => rfl
theorem deqs_self : ∀ ds : List D, deqs ds ds = true
  | [] => rfl
  | d :: ds => by
    rw [deqs_cons, deq_refl d, deqs_self ds]
    rfl
end
theorem okd_lc {α : Type} {n : Nat} {c : α → D} {xs : List α} (h : ∀ x ∈ xs, okd n (c x) = true) : okd (n + 1) (Lc c xs) = true := okd_lst fun x hx => by
  obtain ⟨k, hk, rfl⟩ := List.mem_map.mp hx
  exact h k hk
theorem deq_tp2 (a b c d : Int) : deq (Tp2 D.int D.int (a, b)) (Tp2 D.int D.int (c, d)) = (decide (a = c) && decide (b = d)) := by
  show deqs [D.int a, D.int b] [D.int c, D.int d] = _
  rw [deqs_cons, deqs_cons, deqs_nil, deq_int, deq_int, Bool.and_true]
theorem pys_get {ds : List D} {j : Nat} : (D.pys ds)[j]? = ds[j]?.map D.py := by rw [pys_map, List.getElem?_map]
/-- all but the last -/
theorem cut_init {α : Type} (xs : List α) (x : α) : cutD (xs ++ [x]) none (some (-1)) = xs := by
  show ((xs ++ [x]).drop 0).take (HT.sIx (xs ++ [x]).length (xs ++ [x]).length (some (-1)) - 0) = xs
  have e : HT.sIx (xs ++ [x]).length (xs ++ [x]).length (some (-1)) = xs.length := by
    show (if (-1 : Int) < 0 then ((-1 : Int) + ((xs ++ [x]).length : Int)).toNat else min (-1 : Int).toNat (xs ++ [x]).length) = xs.length
    rw [if_pos (by decide), List.length_append, List.length_singleton]
    omega
  rw [e]
  simp
theorem room65 {k : Nat} {A : Around} (r : Room k A) : A.units + 65 < cLine := by have := r.un; omega
section
variable {X : Cx} (K : PySem.W.Frag)
theorem kIndex {o e : Expr} {to te : TE} {apos cpos : Pos} (hu : X.A.units + 65 < cLine) (ho : PE X o to) (ha : PE X e te)
    (hbase : attributeBase o "index" X.env (eval o X.env) = eval o X.env := by rfl)
    (hfew : ((backTo cpos (starEach (e :: []) X.env)).all (fun x => !x.1) && (backToKw cpos (keywordEach [] X.env)).all (fun x => x.1.isSome)
      && decide ((e :: []).length + ([] : List Keyword).length + (if ([] : List Keyword).isEmpty then 0 else 1) < 30)) = true := by rfl)
    (hline : (apos.endLine == cpos.line) = true := by rfl) (hs : starEach (e :: []) X.env = (false, eval e X.env) :: starEach [] X.env := by rfl) (hplain : (backTo cpos (starEach [] X.env)).any (·.1) = false := by rfl)
    (eK : X.K = K := by rfl) :
    PE X (.Call (.Attribute o "index" apos) [e] [] cpos) (tBM K "list" (rIndexD K) to (tCons te tNil)) := by
  subst eK
  exact kBm X.K PySem.F.slot_list_index PySem.F.type_list_index (mt_indexD hu) ho (pa_cons ha pa_nil hs) hbase hfew hline hs hplain
end
section
variable {K : PySem.W.Frag} {w : World} {Γ : List En} {te tb : TE} {d : D} {ds : List D}
theorem ev_index {j : Nat} {z : D} (h : EvD K w te Γ (.lst ds)) (h2 : EvD K w tb Γ d) (ol : okd 8 (.lst ds) = true) (od : okd 8 d = true) (hz : ds[j]? = some z) (he : deq z d = true) (hno : ∀ (m : Nat) (z' : D), m < j → ds[m]? = some z' → deq z' d = false) :
    EvD K w (tBM K "list" (rIndexD K) te (tCons tb tNil)) Γ (.int j) := fun σ G H S Q q => h σ G H S _ fun v G1 H1 g1 b1 => by
  have hv : ∃ a, v = .ref a := by cases b1; exact ⟨_, rfl⟩
  obtain ⟨a, rfl⟩ := hv
  have o1 := ok_of ol
  have o2 := ok_of od
  unfold D.ok at o1 o2
  rw [Bool.and_eq_true] at o1 o2
  refine ⟨by cases b1 with | lst a1 _ => exact .inl ⟨rfl, _, SqL.of (g1.s _ _ a1)⟩, ?_⟩
  refine h2 σ G1 H1 (S.grow g1) _ fun u G2 H2 g2 b2 => ?_
  refine ⟨a, u, d.py, D.pys ds, j, z.py, rfl, rfl, Be.dp g2.s (.lst ds) _ o1.1 (b1.up g2.k), Be.dp g2.s d _ o2.1 b2, o1.2, o2.2, by rw [pys_get, hz]; rfl, he, fun m z' hm hz' => ?_, q _ G2 H2 (g1.trans g2) (.int _)⟩
  rw [pys_get] at hz'
  cases hd : ds[m]? with
  | none => rw [hd] at hz'; cases hz'
  | some y =>
    rw [hd] at hz'
    cases hz'
    exact hno m y hm hd
end
section
variable {K : PySem.W.Frag} {w : World} {Γ : List En} {tt : TT} {t u : TS} {o : Out}
theorem sv_no (h : EvT K w tt Γ false) (h2 : Sv K w u Γ o) : Sv K w (tIfS tt t u) Γ o := sv_if h (fun z => nomatch z) fun _ => h2
theorem sv_yes (h : EvT K w tt Γ true) (h2 : Sv K w t Γ o) : Sv K w (tIfS tt t u) Γ o := sv_if h (fun _ => h2) fun z => nomatch z
end
end Lh
set_option Elab.async false
set_option linter.all false
set_option maxRecDepth 100000
set_option maxHeartbeats 4000000
/-! Lh: raising values, try .. except .. as, isinstance of what was caught; what is never reached -/
namespace Lh
open PySem L2 PyProof.Rows
open Evl (Ex ex_l ex_t sz_of sz_lt)

/-! ### what is never reached -/
def tNever : TS := fun _ _ _ => False
theorem pss_never {X : Cx} {ss : List Stmt} : PSs X ss tNever := ⟨fun _ _ _ _ _ _ h => h.elim⟩
theorem ps_never {X : Cx} {st : Stmt} : PS X st tNever := ⟨fun _ _ _ _ _ _ h => h.elim⟩
def teNever : TE := fun _ _ _ => False
theorem pe_never {X : Cx} {e : Expr} : PE X e teNever := ⟨fun _ _ _ _ _ _ h => h.elim⟩
def ttNever : TT := fun _ _ _ => False
theorem pt_never {X : Cx} {e : Expr} : PT X e ttNever := ⟨fun _ _ _ _ _ _ h => h.elim⟩

/-! ### values that raise -/
def Rx (K : PySem.W.Frag) (w : World) (e : L2.St → XK) (te : TE) (Γ : List En) (C : Addr) : Prop :=
  ∀ σ G H (Q : VK), Stt K w Γ σ G H → (∀ H2, Ex H H2 → e σ (.ref C) none H2) → te σ H Q
section
variable {K : PySem.W.Frag} {w : World} {Γ Γ2 Γ' : List En} {E : XK} {e : L2.St → XK} {t u : TS} {te tb : TE} {tt : TT} {C : Addr} {ds : List D} {d : D} {o : Out} {R : List D → D → Prop} {RN : List D → List D → Prop} {RE : List D → Addr → Prop} {ta : TA}
theorem rx_call (h : EvA K w ta Γ ds) (hr : RE ds C) : Rx K w (fun _ => E) (tCall (spX K w R RE) [] E ta) Γ C := fun σ G H Q S q => h σ G H S _ fun vs G2 H2 g hb =>
  ⟨G2, ds, g.s, by rw [List.append_nil]; exact hb, .inr ⟨C, hr, fun H3 k => q H3 (g.r.trans k)⟩⟩
theorem rx_callN (h : EvA K w ta Γ ds) (hr : RE ds C) : Rx K w (fun _ => E) (tCall (spXN K w RN RE) [] E ta) Γ C := fun σ G H Q S q => h σ G H S _ fun vs G2 H2 g hb =>
  ⟨G2, ds, g.s, by rw [List.append_nil]; exact hb, .inr ⟨C, hr, fun H3 k => q H3 (g.r.trans k)⟩⟩
theorem rx_callS (h : EvA K w ta Γ ds) (hr : RE ds C) : Rx K w e (tCallS (spX K w R RE) e ta) Γ C := fun σ G H Q S q => h σ G H S _ fun vs G2 H2 g hb =>
  ⟨G2, ds, g.s, hb, .inr ⟨C, hr, fun H3 k => q H3 (g.r.trans k)⟩⟩
theorem rx_callSN (h : EvA K w ta Γ ds) (hr : RE ds C) : Rx K w e (tCallS (spXN K w RN RE) e ta) Γ C := fun σ G H Q S q => h σ G H S _ fun vs G2 H2 g hb =>
  ⟨G2, ds, g.s, hb, .inr ⟨C, hr, fun H3 k => q H3 (g.r.trans k)⟩⟩
theorem rx_if {b : Bool} (h : EvT K w tt Γ b) (h1 : b = true → Rx K w e te Γ C) (h2 : b = false → Rx K w e tb Γ C) : Rx K w e (tIf tt te tb) Γ C := fun σ G H Q S q => h σ G H S _ fun G2 H2 g => by
  cases b with
  | true => exact h1 rfl σ G2 H2 Q (S.grow g) fun H3 k => q H3 (g.r.trans k)
  | false => exact h2 rfl σ G2 H2 Q (S.grow g) fun H3 k => q H3 (g.r.trans k)
theorem rz_ret (h : Rx K w (fun _ => E) te Γ C) : Rz K w E (tRet te) Γ C := fun σ G H D S q => h σ G H _ S fun H2 k => q H2 fun a x ha _ => k a x ha
theorem rz_drop (h : Rx K w (fun _ => E) te Γ C) : Rz K w E (tDrop te) Γ C := fun σ G H D S q => h σ G H _ S fun H2 k => q H2 fun a x ha _ => k a x ha

/-! ### blocks that raise, within try -/
def Rw (K : PySem.W.Frag) (w : World) (t : WX → TS) (Γ : List En) (C : Addr) (Γ' : List En) : Prop :=
  ∀ (W : WX) σ G H (D : Ends), Stt K w Γ σ G H → (∀ σ' G2 H2, GroS Γ σ G G2 H H2 → Stt K w Γ' σ' G2 H2 → (∀ a, own Γ' σ' a → own Γ σ a ∨ H a = none) → W (.ref C) none σ' H2) → t W D σ H
theorem rw_seq {t u : WX → TS} (h : Rw K w t Γ C Γ') : Rw K w (fun W => tSeq (t W) (u W)) Γ C Γ' := fun W σ G H D S q => h W σ G H { D with nx := u W D } S q
theorem rw_weak {t : WX → TS} (h : Rw K w t Γ C Γ2) (s : Sub Γ2 Γ') : Rw K w t Γ C Γ' := fun W σ G H D S q => h W σ G H D S fun σ' G2 H2 g S2 ho => q σ' G2 H2 g (S2.sub s) fun a ha => ho a (own_sub s ha)
theorem rw_seq2 {t u : WX → TS} (h : ∀ W, Sv K w (t W) Γ (.nx Γ2)) (h2 : Rw K w u Γ2 C Γ') : Rw K w (fun W => tSeq (t W) (u W)) Γ C Γ' := fun W σ G H D S q =>
  h W σ G H { D with nx := u W D } S fun σ' G2 H2 g S2 ho => h2 W σ' G2 H2 D S2 fun σ3 G3 H3 g3 S3 h3 => q σ3 G3 H3 (g.trans g3 ho) S3 fun a ha => by
    rcases h3 a ha with z | z
    · exact ho a z
    · cases hq : H a with
      | none => exact .inr rfl
      | some x => exact absurd z (g.d a (by rw [hq]; exact fun q => nomatch q))
theorem rw_if {t u : WX → TS} {b : Bool} (h : EvT K w tt Γ b) (h1 : b = true → Rw K w t Γ C Γ') (h2 : b = false → Rw K w u Γ C Γ') : Rw K w (fun W => tIfS tt (t W) (u W)) Γ C Γ' := fun W σ G H D S q => h σ G H S _ fun G2 H2 g => by
  have gg : GroS Γ σ G G2 H H2 := g.gs
  have q2 : ∀ σ' G3 H3, GroS Γ σ G2 G3 H2 H3 → Stt K w Γ' σ' G3 H3 → (∀ a, own Γ' σ' a → own Γ σ a ∨ H2 a = none) → W (.ref C) none σ' H3 := fun σ' G3 H3 g3 S3 h3 => q σ' G3 H3 (gg.trans g3 fun a ha => .inl ha) S3 fun a ha => by
    rcases h3 a ha with z | z
    · exact .inl z
    · cases hq : H a with
      | none => exact .inr rfl
      | some x => exact absurd z (gg.d a (by rw [hq]; exact fun q => nomatch q))
  cases b with
  | true => exact h1 rfl W σ G2 H2 D (S.grow g) q2
  | false => exact h2 rfl W σ G2 H2 D (S.grow g) q2
theorem rw_drop {te : WX → TE} (h : ∀ W, Rx K w (WE W) (te W) Γ C) : Rw K w (fun W => tDrop (te W)) Γ C Γ := fun W σ G H D S q => h W σ G H _ S fun H2 k => by
  have g : Grow G G H H2 := ⟨Ex.refl G, k, S.ex.trans k, fun _ _ h => h⟩
  exact q σ G H2 g.gs (S.grow g) fun a ha => .inl ha
/-- try, one except clause with as -/
def tTryAs (K : PySem.W.Frag) (c : Value) (i : Nat) (tb : WX → TS) (ts : Addr → Value → Option Addr → TS) : TS := fun D σ H => tb (wAs K c i ts (fun _ _ _ _ => False) D) D σ H
/-- what the suite ends with is the try's end -/
theorem sv_try {tb : WX → TS} {ts : Addr → Value → Option Addr → TS} {cE : Value} {i : Nat} {o : Out} (hb : Rw K w tb Γ C Γ') (hx : PySem.W.exmOne K (.ref C) cE = some true) (ho : ∀ Γ'', o ≠ .nx Γ'')
    (hs : ∀ a, Sv K w (ts a (.ref C) none) (Γ'.set i (.im (.adr a))) o) : Sv K w (tTryAs K cE i tb ts) Γ o := fun σ G H D S q => by
  show tb (wAs K cE i ts (fun _ _ _ _ => False) D) D σ H
  refine hb _ σ G H D S fun σ' G2 H2 g S2 h2 => ⟨true, hx, fun _ a _ => ?_, fun z => nomatch z⟩
  refine hs a _ G2 H2 _ (S2.put (.adr a)) ?_
  have q2 := wish_seq (Γ2 := Γ'.set i (.im (.adr a))) (σ2 := σ'.set i (some (.ref a))) g (fun b hb => h2 b (own_set (fun ds => by intro z; cases z) hb)) q
  cases o with
  | nx Γ'' => exact absurd rfl (ho Γ'')
  | rt d => exact q2
  | rn ds => exact q2
end

/-! ### isinstance of what was caught -/
structure IsEx (K : PySem.W.Frag) (C : Addr) : Prop where
  cl : (PySem.W.clsIn K C).isSome = true
  ga : PySem.W.findIn K (.ref C) "__getattribute__" = some (some (.builtin "BaseException.__getattribute__"))
  gt : ∃ g, PySem.W.findIn K (.ref C) "__getattr__" = some g
  b : PySem.W.subIn K (.ref C) (.type "BaseException") = some true
  ca : PySem.W.findIn K (.ref C) "__class__" = some (some (.builtin "object.__class__"))
  sp : PySem.W.specialIn K (.builtin "object.__class__") "__get__" = some (some (.builtin "getset_descriptor.__get__"))
  tk : PySem.W.takesIn K (.builtin "object.__class__") = some true
  mo : PySem.W.mroIn K C (.type "object") = some true
def rIsE (K : PySem.W.Frag) (a : Addr) (cls : Value) (d : Option Addr) : List V → Hp → VK → Prop := fun xs H Q => ∃ (c : V) (u : Value) (b : Bool) (C : Addr), xs = [.ref a, c] ∧ ClsV c u ∧ cls = .ref C ∧ d = none ∧ IsEx K C ∧ PySem.W.kitOne K (.ref C) u = some b ∧ Q (.bl b) H
theorem kIsE (K : PySem.W.Frag) {X : Cx} {a : Addr} {oe : Obj} {cls : Value} {d : Option Addr} {pn : List (Addr × Obj)} (hz : Zc cls d oe) (hf : ∃ vs, oe.data = .fields vs) (eK : X.K = K := by rfl) : CallR (X.suite a ((a, oe) :: pn)) (.builtin "isinstance") (rIsE K a cls d) := by
  subst eK
  intro pins s σ H xs us Q I r h
  obtain ⟨c, u, b, C, rfl, k, rfl, rfl, F, e, q⟩ := h
  obtain ⟨u1, u2, rfl, r1, r2⟩ := vals2 r
  have e2 := k.eq r2
  subst e2
  cases (show u1 = Value.ref a from r1)
  obtain ⟨ha, _⟩ := I.pin (a, oe) (List.mem_append_left _ List.mem_cons_self)
  obtain ⟨vs, hd⟩ := hf
  obtain ⟨g, hg⟩ := F.gt
  have J : PySem.W.InstAt s.heap a oe C none := ⟨ha, hz.1, by unfold PySem.W.notCls; rw [hd] <;> rfl, by rw [hz.2]; trivial⟩
  exact PySem.W.kia_one (PySem.W.kitx_exc F.cl F.ga hg F.b F.ca F.sp F.tk F.mo) I.kIn J e (fun z => nomatch z) fun tk => ⟨.bl b, H, I.tok tk, rfl, q⟩
theorem cd_isE {K : PySem.W.Frag} {w : World} {a C C2 : Addr} {b : Bool} (F : IsEx K C) (e : PySem.W.kitOne K (.ref C) (.ref C2) = some b) : CD K w (rIsE K a (.ref C) none) [.adr a, .adr C2] (.bl b) := fun G H vs _ h Q q => by
  obtain ⟨x, y, rfl, h1, h2⟩ := be2 h
  cases h1
  cases h2
  exact ⟨_, _, b, C, rfl, .own C2, rfl, rfl, F, e, q _ G H (Grow.refl ‹_›) (.bl _)⟩
theorem cd_isET {K : PySem.W.Frag} {w : World} {a C : Addr} {T : String} {b : Bool} (F : IsEx K C) (e : PySem.W.kitOne K (.ref C) (.type T) = some b) : CD K w (rIsE K a (.ref C) none) [.adr a, .ty T] (.bl b) := fun G H vs _ h Q q => by
  obtain ⟨x, y, rfl, h1, h2⟩ := be2 h
  cases h1
  cases h2
  exact ⟨_, _, b, C, rfl, .ty T, rfl, rfl, F, e, q _ G H (Grow.refl ‹_›) (.bl _)⟩
theorem kTryAs (K : PySem.W.Frag) {X : Cx} {x n : Str} {c : Value} {i : Nat} {body suite : List Stmt} {b₀ : Stmt} {np pos pos' : Pos} {tb : WX → TS} {ts : Addr → Value → Option Addr → TS}
    (hN : X.N.Nodup) (hi : X.N[i]? = some n) (hln : X.env.kindOf n = some .local) (hc : Names X x c) (tk : Takes X (fun _ _ _ _ => False))
    (hb : ∀ (W : WX) (pn : List (Addr × Obj)) (xe : Value → Shared → Prop), Takes (X.tr pn xe) W → PassesOwn (model X.prog X.w) X.A X.env xe → PSs (X.tr pn xe) body (tb W)) (hsu : ∀ (a : Addr) (oe : Obj) (cls : Value) (d : Option Addr) (pn : List (Addr × Obj)), Zc cls d oe → (∃ vs, oe.data = .fields vs) → PSs (X.suite a ((a, oe) :: pn)) (b₀ :: suite) (ts a cls d))
    (hs : X.stack = X.env :: X.outer := by rfl) (hf : X.env.frame = some X.env.locals := by rfl) (eK : X.K = K := by rfl) : PS X (.Try body [.ExceptHandler (some (.Name x np)) (some n) (b₀ :: suite) pos'] [] [] pos) (tTryAs K c i tb ts) := by
  subst eK
  exact ps_try_as hs hf hN hi hln hc tk hb hsu
/-- a def called within try -/
theorem pcallS {X : Cx} {CX : CXT} {x : Str} {k : Nat} {ps : List Str} {sp : Sp} {E : L2.St → XK} {e : Expr} {es : List Expr} {t : TA} {p pos : Pos} (C : Has X.prog X.w X.K X.mg X.base CX x k ps sp) (hr : Room k X.A) (hx : ∀ σ, PassesAt CX X σ (E σ)) (hg : Gl X x) (ha : PA X (e :: es) t)
    (hdb : (x == ("__debug__" : Str)) = false := by decide) (he : starEach (e :: es) X.env = (false, eval e X.env) :: starEach es X.env := by rfl) (hpl : (backTo pos (starEach es X.env)).any (·.1) = false := by rfl) : PE X (.Call (.Name x p) (e :: es) [] pos) (tCallS sp E t) := by
  obtain ⟨f, fd, g, kp, b, ok⟩ := C.ex
  exact pe_callS ok hr hg g kp b hx ha hdb he hpl
section
variable {K : PySem.W.Frag} {w : World} {Γ : List En} {te ti : TE} {d : D} {ds : List D}
/-- x[i] = e, x a list of the def's own -/
theorem sv_store {i j : Nat} {k : Int} (h : Γ[i]? = some (.ow ds)) (he : EvD K w te Γ d) (hi : EvD K w ti Γ (.int k)) (hj : ixN ds.length k = some j) : Sv K w (tAsg te (gSub (tVar i) ti L2.rSetL)) Γ (.nx (Γ.set i (.ow (ds.set j d)))) := fun σ G H D S q => by
  obtain ⟨p, xs, h1, h2, h3, h4⟩ := S.ow i ds h
  have op : own Γ σ p := ⟨i, ds, h, h1⟩
  refine he σ G H S _ fun v G2 H2 g hb => ⟨.ref p, h1, ?_⟩
  refine hi σ G2 H2 (S.grow g) _ fun u G3 H3 g3 b3 => ?_
  cases b3
  exact ⟨p, xs, k, j, rfl, rfl, (g.trans g3).r _ _ h2, by rw [h4.length]; exact hj, q σ G3 _ (GroS.mut S (g.trans g3) op) ((S.grow (g.trans g3)).grown h h1 (BeAll.set (hb.up g3.k) j (h4.up (g.trans g3).k))) fun a ha => .inl (own_grown h ha)⟩
/-- {} -/
theorem ev_dct : EvD K w tDNewK Γ .dct := fun σ G H S Q q p hp => q _ _ _ (Grow.new S.ex hp _) (.dct upd_same)
end
/-- an error is caught by its base class -/
theorem exm_base {K : PySem.W.Frag} {C B : Addr} (h1 : PySem.W.subIn K (.ref B) (.type "BaseException") = some true) (h2 : PySem.W.isClsIn K B = true) (h3 : PySem.W.typeIn K (.ref B) = some (.type "type")) (h4 : PySem.W.subIn K (.ref C) (.ref B) = some true) : PySem.W.exmOne K (.ref C) (.ref B) = some true := by
  have e1 : (PySem.W.subIn K (.ref B) (.type "BaseException") == some true) = true := by rw [h1] <;> rfl
  have e2 : ((PySem.W.clsIn K B).isSome && PySem.W.typeIn K (.ref B) == some (.type "type")) = true := by
    have h : (PySem.W.clsIn K B).isSome = true := h2
    rw [h, h3] <;> rfl
  unfold PySem.W.exmOne PySem.W.kitCls
  rw [if_pos e1]
  simp only [e2, if_true]
  exact h4
end Lh
set_option Elab.async false
set_option linter.all false
set_option maxRecDepth 100000
set_option maxHeartbeats 4000000
/-! Lh: the end -/
namespace Lh
open PySem L2 PyProof.Rows
theorem walk_law {l : PySem.W.OpenLaw} {n k : Nat} {q : Program} {loose : List Str} {XP : (Str → Option Value) → Heap → Prop} {YP : World → Heap → Prop} {d : DefRec} {K : Params → PySem.W.Frag} {x : Str} (R : List D → D → Prop)
    (hR : ∀ ns : List Int, ns.length ≤ n → (∀ z ∈ ns, Builtin.Int.intBits z ≤ 1048576) → R [.scr ns] (.bl true))
    (hn : l.most = some n) (hn2 : n ≤ sizeLine) (hdf : d.params.defaults = []) (hr : Room k callerA)
    (hY : ∀ (w : World) (h : Heap), YP w h → (K w.params).In h)
    (F : ∀ (w : World) (mg : Str → Option Value) (fa : Addr) (h : Heap), (K w.params).In h → h.Ns mainGlobals mg → mg d.name = some (.ref fa) →
      ∃ fd : FuncData, (∀ (s : Shared) (u : Value), BindsTo s fd ⟨[u], []⟩ [(x, u)]) ∧
        ∀ base : Heap, (K w.params).In base → base.Ns mainGlobals mg → FnOk l.prog w (K w.params) mg base CX0 k fa fd [x] (spD (K w.params) w R)) :
    PySem.W.WalkO q loose XP YP l.row.toRowW d [] (fun f vs => PySem.call f vs) :=
  walk_ofB (sp := fun w => spD (K w.params) w R) (CX := fun _ => CX0) hn hn2 hdf hr hY F
    (fun w H a ns hlen hb _ hs => ⟨H, [.scr ns], .bl true, Evl.Ex.refl H, .cons (.scr hs) .nil, hR ns hlen hb, fun v G2 H2 _ hv => by cases hv; rfl⟩) fun _ _ _ _ _ h => h
end Lh
set_option Elab.async false
set_option linter.all false
set_option maxRecDepth 100000
set_option maxHeartbeats 8000000
namespace Lw
open PySem L2 PyProof.Rows Lh
def topS (i : Nat) : Stmt := PySem.Challenge.pw_linehold_k05_refused.main.body.getD i (.Pass ⟨0, 0, 0, 0⟩)
abbrev s_is_number : Stmt := topS 9
abbrev N_is_number : List Str := ["thing"]
abbrev P_is_number : List Str := ["thing"]
theorem sc_is_number : FnScope N_is_number P_is_number (defScope s_is_number) := ⟨rfl, rfl, rfl, by decide +kernel, rfl, by decide +kernel, by decide +kernel⟩
abbrev s_are_places : Stmt := topS 10
abbrev N_are_places : List Str := ["thing", "places", "one"]
abbrev P_are_places : List Str := ["thing", "places"]
theorem sc_are_places : FnScope N_are_places P_are_places (defScope s_are_places) := ⟨rfl, rfl, rfl, by decide +kernel, rfl, by decide +kernel, by decide +kernel⟩
abbrev s_is_line : Stmt := topS 11
abbrev N_is_line : List Str := ["thing", "places"]
abbrev P_is_line : List Str := ["thing", "places"]
theorem sc_is_line : FnScope N_is_line P_is_line (defScope s_is_line) := ⟨rfl, rfl, rfl, by decide +kernel, rfl, by decide +kernel, by decide +kernel⟩
abbrev s_asked_lines : Stmt := topS 12
abbrev N_asked_lines : List Str := ["places", "lines", "line"]
abbrev P_asked_lines : List Str := ["places", "lines"]
theorem sc_asked_lines : FnScope N_asked_lines P_asked_lines (defScope s_asked_lines) := ⟨rfl, rfl, rfl, by decide +kernel, rfl, by decide +kernel, by decide +kernel⟩
abbrev s_asked_board : Stmt := topS 13
abbrev N_asked_board : List Str := ["places", "lines", "his", "mine"]
abbrev P_asked_board : List Str := ["places", "lines", "his", "mine"]
theorem sc_asked_board : FnScope N_asked_board P_asked_board (defScope s_asked_board) := ⟨rfl, rfl, rfl, by decide +kernel, rfl, by decide +kernel, by decide +kernel⟩
abbrev s_alive : Stmt := topS 14
abbrev N_alive : List Str := ["lines", "mine", "line", "place"]
abbrev P_alive : List Str := ["lines", "mine"]
theorem sc_alive : FnScope N_alive P_alive (defScope s_alive) := ⟨rfl, rfl, rfl, by decide +kernel, rfl, by decide +kernel, by decide +kernel⟩

/-! ### data that may be handed in -/
mutual
def tame : D → Bool
  | .non => true
  | .bl _ => true
  | .int _ => true
  | .str _ => true
  | .dct => true
  | .lst xs => decide (xs.length ≤ 63) && tames xs
  | .tup xs => decide (xs.length ≤ 63) && tames xs
  | _ => false
def tames : List D → Bool
  | [] => true
  | x :: xs => tame x && tames xs
end
theorem tames_all : ∀ xs : List D, tames xs = xs.all tame
  | [] => rfl
  | x :: xs => by rw [tames, tames_all xs, List.all_cons]
theorem tame_ty {d : D} (h : tame d = true) : (tyD d).isSome = true := by
  cases d <;> first | rfl | cases h
theorem tame_lst {xs : List D} (h : tame (.lst xs) = true) : xs.length ≤ 63 ∧ ∀ x ∈ xs, tame x = true := by
  have h : (decide (xs.length ≤ 63) && tames xs) = true := by rw [tame] at h; exact h
  rw [Bool.and_eq_true, tames_all] at h
  exact ⟨of_decide_eq_true h.1, List.all_eq_true.mp h.2⟩
theorem tame_of_lst {xs : List D} (h : xs.length ≤ 63) (h2 : ∀ x ∈ xs, tame x = true) : tame (.lst xs) = true := by
  rw [tame, decide_eq_true h, tames_all, List.all_eq_true.mpr h2]
  rfl
theorem tame_of_tup {xs : List D} (h : xs.length ≤ 63) (h2 : ∀ x ∈ xs, tame x = true) : tame (.tup xs) = true := by
  rw [tame, decide_eq_true h, tames_all, List.all_eq_true.mpr h2]
  rfl
theorem tame_li {ns : List Int} (h : ns.length ≤ 63) : tame (Li ns) = true := tame_of_lst (by rw [List.length_map]; exact h) fun x hx => by
  obtain ⟨n, _, rfl⟩ := List.mem_map.mp hx
  rfl
theorem tame_ll {ls : List (List Int)} (h : ls.length ≤ 63) (h2 : ∀ l ∈ ls, l.length ≤ 63) : tame (Ll ls) = true := tame_of_lst (by rw [List.length_map]; exact h) fun x hx => by
  obtain ⟨n, hn, rfl⟩ := List.mem_map.mp hx
  exact tame_li (h2 n hn)

/-! ### what is refused, on data -/
def isNum : D → Bool
  | .int _ => true
  | _ => false
def inR (n : Int) : D → Bool
  | .int i => decide (0 ≤ i) && decide (i < n)
  | _ => false
def arePl (n : Int) : D → Bool
  | .lst xs => xs.all (inR n)
  | _ => false
def intsD : List D → List Int
  | [] => []
  | .int i :: r => i :: intsD r
  | _ :: r => intsD r
theorem ints_of {n : Int} : ∀ {xs : List D}, xs.all (inR n) = true → xs = (intsD xs).map D.int ∧ ∀ i ∈ intsD xs, 0 ≤ i ∧ i < n
  | [], _ => ⟨rfl, fun i hi => by cases hi⟩
  | d :: r, h => by
    rw [List.all_cons, Bool.and_eq_true] at h
    obtain ⟨h1, h2⟩ := ints_of h.2
    cases d with
    | int i =>
      have h3 : (decide (0 ≤ i) && decide (i < n)) = true := h.1
      rw [Bool.and_eq_true] at h3
      refine ⟨?_, fun j hj => ?_⟩
      · show D.int i :: r = D.int i :: (intsD r).map D.int
        rw [← h1]
      · rcases List.mem_cons.mp (show j ∈ i :: intsD r from hj) with e | e
        · subst e
          exact ⟨of_decide_eq_true h3.1, of_decide_eq_true h3.2⟩
        · exact h2 j e
    | _ => exact absurd h.1 (by intro z; cases z)
theorem ints_map : ∀ ns : List Int, intsD (ns.map D.int) = ns
  | [] => rfl
  | n :: ns => by rw [List.map_cons, intsD, ints_map ns]
theorem arePl_of {n : Int} {d : D} (h : arePl n d = true) : ∃ ns : List Int, d = Li ns ∧ ∀ i ∈ ns, 0 ≤ i ∧ i < n := by
  cases d with
  | lst xs =>
    obtain ⟨h1, h2⟩ := ints_of (show xs.all (inR n) = true from h)
    exact ⟨intsD xs, congrArg D.lst h1, h2⟩
  | _ => cases h
theorem arePl_li {n : Int} {ns : List Int} (h : ∀ i ∈ ns, 0 ≤ i ∧ i < n) : arePl n (Li ns) = true := by
  show (ns.map D.int).all (inR n) = true
  rw [List.all_map, List.all_eq_true]
  intro i hi
  show (decide (0 ≤ i) && decide (i < n)) = true
  rw [decide_eq_true (h i hi).1, decide_eq_true (h i hi).2]
  rfl
def isLn (n : Int) (d : D) : Bool := arePl n d && (match d with | .lst xs => !(intsD xs).isEmpty && decide (intsD xs = srtU (intsD xs)) | _ => false)
def plOk : D → Bool
  | .int n => decide (1 ≤ n) && decide (n ≤ 60)
  | _ => false
def lnOk (n : Int) : D → Bool
  | .lst xs => decide (xs.length ≤ 60) && xs.all (isLn n)
  | _ => false

/-! ### promises -/
def R_is_number (ds : List D) (d : D) : Prop := ∃ x, ds = [x] ∧ tame x = true ∧ d = .bl (isNum x)
def R_are_places (ds : List D) (d : D) : Prop := ∃ x n, ds = [x, .int n] ∧ tame x = true ∧ d = .bl (arePl n x)
def R_is_line (ds : List D) (d : D) : Prop := ∃ x n, ds = [x, .int n] ∧ tame x = true ∧ d = .bl (isLn n x)
section
variable {K : PySem.W.Frag} {w : World} {Γ : List En} {ta : TA} {E : XK} {x : D} {n : Int}
theorem ev_is_number (h : EvA K w ta Γ [x]) (t : tame x = true) : EvD K w (tCall (spD K w R_is_number) [] E ta) Γ (.bl (isNum x)) := ev_call h ⟨x, rfl, t, rfl⟩
theorem ev_are_places (h : EvA K w ta Γ [x, .int n]) (t : tame x = true) : EvD K w (tCall (spD K w R_are_places) [] E ta) Γ (.bl (arePl n x)) := ev_call h ⟨x, n, rfl, t, rfl⟩
theorem ev_is_line (h : EvA K w ta Γ [x, .int n]) (t : tame x = true) : EvD K w (tCall (spD K w R_is_line) [] E ta) Γ (.bl (isLn n x)) := ev_call h ⟨x, n, rfl, t, rfl⟩
end
section
variable {P : Program} {w : World} {K : PySem.W.Frag} {mg : Str → Option Value} {base : Heap}
theorem num_and (x : D) : (isI x && !isB x) = isNum x := by cases x <;> rfl
theorem ok_is_number {f : Addr} {fd : FuncData} (F : Fun K "is_number" "is_number" s_is_number f fd) (B : Bn mg) : FnOk P w K mg base CX0 1 f fd P_is_number (spD K w R_is_number) :=
  fn_D F sc_is_number (fun ds d ⟨_, e, _⟩ => by rw [e]; rfl) fun cdv A outer s H E hr => ⟨_, (pss_one (ps_ret (pe_and (pe_callB (kIsi K) (by rfl) B.isinstance bt_isinstance (pa_cons (pv 0) (pa_cons (pe_bltn (v := .ty "int") (by rfl) B.int bt_int rfl) pa_nil))) (pe_one (pe_not (pe_callB (kIsi K) (by rfl) B.isinstance bt_isinstance (pa_cons (pv 0) (pa_cons (pe_bltn (v := .ty "bool") (by rfl) B.bool bt_bool rfl) pa_nil)))))))), fun ds d hR => by
    obtain ⟨x, rfl, ht, rfl⟩ := hR
    refine sv_ret (EvD.to (ev_andV (ev_cb (ea_cons (ev_var rfl) (ea_cons ev_ty ea_nil)) (cd_isInt ?_)) fun hB => (ev_notV (ev_cb (ea_cons (ev_var rfl) (ea_cons ev_ty ea_nil)) (cd_isBool ?_)))) (by rw [num_and]))
    all_goals exact tame_ty ht⟩
theorem ok_are_places {f : Addr} {fd : FuncData} (F : Fun K "are_places" "are_places" s_are_places f fd) (B : Bn mg) (h_is_number : Has P w K mg base CX0 "is_number" 1 ["thing"] (spD K w R_is_number)) :
    FnOk P w K mg base CX0 2 f fd P_are_places (spD K w R_are_places) :=
  fn_D F sc_are_places (fun ds d ⟨_, _, e, _⟩ => by rw [e]; rfl) fun cdv A outer s H E hr => ⟨_, (pss_one (ps_ret (pe_and (pe_callB (kIsi K) (by rfl) B.isinstance bt_isinstance (pa_cons (pv 0) (pa_cons (pe_bltn (v := .ty "list") (by rfl) B.list bt_list rfl) pa_nil))) (pe_one (pe_callB (kAll K rfl) (by rfl) B.all bt_all (pa_cons (pe_lc (own := [("one", 2)]) rfl sc_are_places.nd (kIList K (pv 0)) (blkOk_by (by kernel_rfl)) (fun _ _ _ _ _ => (pg_name (i := 2) sc_are_places.nd rfl (by first | exact Or.inl rfl | exact Or.inr rfl))) (fun _ _ _ _ _ => pts_nil) (fun _ _ _ _ _ => (pe_and (pcall h_is_number (hr.mono (by decide)) pass0 (by rfl) (pa_cons (pv 2) pa_nil)) (pe_one (pe_chain op_le op_lt pe_int (pv 2) (pv 1)))))) pa_nil)))))), fun ds d hR => by
    obtain ⟨x, n, rfl, ht, rfl⟩ := hR
    cases x with
    | lst xs =>
      obtain ⟨hl, hx⟩ := tame_lst ht
      refine sv_ret (EvD.to (ev_andV (x := true) (ev_cb (ea_cons (ev_var rfl) (ea_cons ev_ty ea_nil)) (cd_isList rfl)) fun hB => (ev_cb (ea_cons (EvN.known (en_lcmX (h := inR n) D.bl (ei_list (ev_var rfl)) (fun x hx => tc_name (by decide)) (fun y hy => ?_) (by omega))) ea_nil) cd_all)) ?_)
      · have hty := hx y hy
        cases y with
        | int i => exact EvD.to (ev_andV (ev_is_number (ea_cons (ev_var rfl) ea_nil) hty) fun hB => (et_chain ev_int (ev_var rfl) rd_le (fun hB => (ev_var rfl)) (fun hB => rd_lt))) rfl
        | _ => exact EvD.to (ev_andV (y := false) (ev_is_number (ea_cons (ev_var rfl) ea_nil) hty) fun hB => absurd hB (by intro z; cases z)) rfl
      · show D.bl ((xs.map (inR n)).all id) = D.bl (xs.all (inR n))
        rw [List.all_map]
        rfl
    | _ => exact sv_ret (EvD.to (ev_andV (y := false) (ev_cb (ea_cons (ev_var rfl) (ea_cons ev_ty ea_nil)) (cd_isList (tame_ty ht))) fun hB => absurd hB (by first | (cases ht; done) | (intro z; cases z))) (by first | rfl | (cases ht)))⟩
theorem ok_is_line {f : Addr} {fd : FuncData} (F : Fun K "is_line" "is_line" s_is_line f fd) (B : Bn mg) (h_are_places : Has P w K mg base CX0 "are_places" 2 ["thing", "places"] (spD K w R_are_places)) :
    FnOk P w K mg base CX0 3 f fd P_is_line (spD K w R_is_line) :=
  fn_D F sc_is_line (fun ds d ⟨_, _, e, _⟩ => by rw [e]; rfl) fun cdv A outer s H E hr => ⟨_, (pss_one (ps_ret (pe_and (pcall h_are_places (hr.mono (by decide)) pass0 (by rfl) (pa_cons (pv 0) (pa_cons (pv 1) pa_nil))) (pe_and (pe_cmpR (kNe K hr.units) (pv 0) (pe_lst pa_nil) (nomark _)) (pe_one (pe_cmpR (kEq K hr.units) (pv 0) (pe_callB (kSorted K w rfl) (by rfl) B.sorted bt_sorted (pa_cons (pe_callTy (kSetL K w rfl) (by rfl) B.set bt_set (pa_cons (pv 0) pa_nil)) pa_nil)) (nomark _))))))), fun ds d hR => by
    obtain ⟨x, n, rfl, ht, rfl⟩ := hR
    by_cases ha : arePl n x = true
    · obtain ⟨ns, rfl, hn⟩ := arePl_of ha
      have hl : ns.length ≤ 63 := by
        have := (tame_lst ht).1
        rw [List.length_map] at this
        exact this
      refine sv_ret (EvD.to (ev_andV (ev_are_places (ea_cons (ev_var rfl) (ea_cons (ev_var rfl) ea_nil)) ?_) fun hB => (ev_andV (ev_op (ev_var rfl) (EvN.known (en_lst ea_nil)) rd_neNil) fun hB => (ev_op (ev_var rfl) (EvN.known (en_cb (ea_cons (ev_cb (ea_cons (ev_var rfl) ea_nil) (cd_set ?_)) ea_nil) (cn_sorted ?_))) rd_eqL))) ?_)
      · exact ht
      · omega
      · omega
      · show D.bl (arePl n (Li ns) && (!decide (ns = []) && decide (ns = srtU ns))) = D.bl (isLn n (Li ns))
        unfold isLn
        rw [ha]
        show D.bl (true && (!decide (ns = []) && decide (ns = srtU ns))) = D.bl (true && (!(intsD (ns.map D.int)).isEmpty && decide (intsD (ns.map D.int) = srtU (intsD (ns.map D.int)))))
        rw [ints_map]
        cases ns <;> rfl
    · have ha : arePl n x = false := by simpa using ha
      refine sv_ret (EvD.to (ev_andV (y := false) (ev_are_places (ea_cons (ev_var rfl) (ea_cons (ev_var rfl) ea_nil)) ht) fun hB => absurd hB (by rw [ha]; exact Bool.false_ne_true)) ?_)
      unfold isLn
      rw [ha]
      rfl⟩

/-! the refusals -/
def R_asked_lines (ds : List D) (d : D) : Prop := ∃ n l, ds = [.int n, l] ∧ plOk (.int n) = true ∧ tame l = true ∧ lnOk n l = true ∧ d = .non
def RE_asked_lines (CP CL : Addr) (ds : List D) (C : Addr) : Prop := ∃ x l, ds = [x, l] ∧ tame x = true ∧ tame l = true ∧ ((plOk x = false ∧ C = CP) ∨ (∃ n, x = .int n ∧ plOk x = true ∧ lnOk n l = false ∧ C = CL))
theorem ok_asked_lines {f CP CL : Addr} {fd : FuncData} (F : Fun K "asked_lines" "asked_lines" s_asked_lines f fd) (B : Bn mg) (c_BadPlaces : ExcC K mg "BadPlaces" CP) (c_BadLines : ExcC K mg "BadLines" CL) (g_MOST : ∃ t, mg "MOST" = some (.int 60 t)) (g_MOST_LINES : ∃ t, mg "MOST_LINES" = some (.int 60 t))
    (h_is_number : Has P w K mg base CX0 "is_number" 1 ["thing"] (spD K w R_is_number)) (h_is_line : Has P w K mg base CX0 "is_line" 3 ["thing", "places"] (spD K w R_is_line)) :
    FnOk P w K mg base (L2.CX P w) 4 f fd P_asked_lines (spX K w R_asked_lines (RE_asked_lines CP CL)) := by
  obtain ⟨_, g_MOST⟩ := g_MOST
  obtain ⟨_, g_MOST_LINES⟩ := g_MOST_LINES
  refine fn_X F sc_asked_lines (fun ds d ⟨_, _, e, _⟩ => by rw [e]; rfl) (fun ds d ⟨_, _, e, _⟩ => by rw [e]; rfl) fun cdv A outer s H E hr => ?_
  refine ⟨_, (pss_cons (ps_if (PW.pt (pw_or (pt_not (pt_val (pcall h_is_number (hr.mono (by decide)) pass0 (by rfl) (pa_cons (pv 0) pa_nil)))) (pw_or1 (pt_not (pt_chain op_le op_le pe_int (pv 0) (pe_glob (v := .int 60) (by rfl) g_MOST ⟨_, rfl⟩)))))) (pss_one (kRaise c_BadPlaces rfl (takes_of rfl rfl rfl rfl) (by rfl))) pss_nil) (pss_one (ps_if (PW.pt (pw_or (pt_not (pt_val (pe_callB (kIsi K) (by rfl) B.isinstance bt_isinstance (pa_cons (pv 1) (pa_cons (pe_bltn (v := .ty "list") (by rfl) B.list bt_list rfl) pa_nil))))) (pw_or (pt_cmpR op_gt (pe_callB (kLen K w) (by rfl) B.len PySem.boot_len (pa_cons (pv 1) pa_nil)) (pe_glob (v := .int 60) (by rfl) g_MOST_LINES ⟨_, rfl⟩) (nomark _)) (pw_or1 (pt_not (pt_val (pe_callB (kAll K rfl) (by rfl) B.all bt_all (pa_cons (pe_lc (own := [("line", 2)]) rfl sc_asked_lines.nd (kIList K (pv 1)) (blkOk_by (by kernel_rfl)) (fun _ _ _ _ _ => (pg_name (i := 2) sc_asked_lines.nd rfl (by first | exact Or.inl rfl | exact Or.inr rfl))) (fun _ _ _ _ _ => pts_nil) (fun _ _ _ _ _ => (pcall h_is_line (hr.mono (by decide)) pass0 (by rfl) (pa_cons (pv 2) (pa_cons (pv 0) pa_nil))))) pa_nil)))))))) (pss_one (kRaise c_BadLines rfl (takes_of rfl rfl rfl rfl) (by rfl))) pss_nil))), ?_, ?_⟩
  · rintro ds d ⟨n, l, rfl, hp, ht, hl, rfl⟩
    have hp : (decide (1 ≤ n) && decide (n ≤ 60)) = true := hp
    cases l with
    | lst xs =>
      obtain ⟨z1, z2⟩ := tame_lst ht
      have hl : (decide (xs.length ≤ 60) && xs.all (isLn n)) = true := hl
      rw [Bool.and_eq_true] at hl
      refine .inr ⟨⟨_, sv_seq (sv_if (EvT.to (et_or (et_not (et_B (ev_is_number (ea_cons (ev_var rfl) ea_nil) ?_))) fun hB => (et_not (et_test (et_chain ev_int (ev_var rfl) rd_le (fun hB => ev_int) (fun hB => rd_le))))) (b' := false) ?_) (fun hb => absurd hb Bool.false_ne_true) fun _ => sv_next) (sv_if (EvT.to (et_or (et_not (et_B (ev_cb (ea_cons (ev_var rfl) (ea_cons ev_ty ea_nil)) (cd_isList ?_)))) fun hB => (et_or (et_test (ev_op (ev_cb (ea_cons (ev_var rfl) ea_nil) cd_len) ev_int rd_gt)) fun hB => (et_not (et_B (ev_cb (ea_cons (EvN.known (en_lcmX D.bl (ei_list (ev_var rfl)) (fun x hx => tc_name (by decide)) (fun x hx => (ev_is_line (ea_cons (ev_var rfl) (ea_cons (ev_var rfl) ea_nil)) ?_)) ?_)) ea_nil) cd_all))))) (b' := false) ?_) (fun hb => absurd hb Bool.false_ne_true) fun _ => sv_next)⟩, rfl⟩
      · rfl
      · rw [hp]
        rfl
      · rfl
      · exact z2 _ (by assumption)
      · omega
      · have e1 : decide ((60 : Int) < (xs.length : Int)) = false := decide_eq_false (by have := of_decide_eq_true hl.1; omega)
        show (!true || (decide ((60 : Int) < (xs.length : Int)) || !(xs.map (isLn n)).all id)) = false
        rw [e1, List.all_map, show xs.all (id ∘ isLn n) = xs.all (isLn n) from rfl, hl.2]
        rfl
    | _ => first | (cases hl; done) | cases ht
  · rintro ds C ⟨x, l, rfl, hx, hl, h⟩
    rcases h with ⟨hp, rfl⟩ | ⟨n, rfl, hp, hln, rfl⟩
    · refine rz_seq ?_
      cases x with
      | int n =>
        have hp : (decide (1 ≤ n) && decide (n ≤ 60)) = false := hp
        refine rz_if (EvT.to (et_or (et_not (et_B (ev_is_number (ea_cons (ev_var rfl) ea_nil) ?_))) fun hB => (et_not (et_test (et_chain ev_int (ev_var rfl) rd_le (fun hB => ev_int) (fun hB => rd_le))))) (b' := true) ?_) (fun _ => rz_raise) fun hb => absurd hb (by intro z; cases z)
        · rfl
        · rw [hp]
          rfl
      | _ => exact rz_if (EvT.to (et_or (y := false) (et_not (et_B (ev_is_number (ea_cons (ev_var rfl) ea_nil) hx))) fun hB => absurd hB (by intro z; cases z)) (b' := true) rfl) (fun _ => rz_raise) fun hb => absurd hb (by intro z; cases z)
    · have hp : (decide (1 ≤ n) && decide (n ≤ 60)) = true := hp
      refine rz_seq2 (sv_if (EvT.to (et_or (et_not (et_B (ev_is_number (ea_cons (ev_var rfl) ea_nil) ?_))) fun hB => (et_not (et_test (et_chain ev_int (ev_var rfl) rd_le (fun hB => ev_int) (fun hB => rd_le))))) (b' := false) ?_) (fun hb => absurd hb Bool.false_ne_true) fun _ => sv_next) ?_
      · rfl
      · rw [hp]
        rfl
      cases l with
      | lst xs =>
        obtain ⟨z1, z2⟩ := tame_lst hl
        have hln : (decide (xs.length ≤ 60) && xs.all (isLn n)) = false := hln
        refine rz_if (EvT.to (et_or (et_not (et_B (ev_cb (ea_cons (ev_var rfl) (ea_cons ev_ty ea_nil)) (cd_isList ?_)))) fun hB => (et_or (et_test (ev_op (ev_cb (ea_cons (ev_var rfl) ea_nil) cd_len) ev_int rd_gt)) fun hB => (et_not (et_B (ev_cb (ea_cons (EvN.known (en_lcmX D.bl (ei_list (ev_var rfl)) (fun x hx => tc_name (by decide)) (fun x hx => (ev_is_line (ea_cons (ev_var rfl) (ea_cons (ev_var rfl) ea_nil)) ?_)) ?_)) ea_nil) cd_all))))) (b' := true) ?_) (fun _ => rz_raise) fun hb => absurd hb (by intro z; cases z)
        · rfl
        · exact z2 _ (by assumption)
        · omega
        · show (!true || (decide ((60 : Int) < (xs.length : Int)) || !(xs.map (isLn n)).all id)) = true
          rw [List.all_map, show xs.all (id ∘ isLn n) = xs.all (isLn n) from rfl]
          by_cases e : xs.length ≤ 60
          · rw [decide_eq_true e, Bool.true_and] at hln
            rw [hln]
            simp
          · have e1 : decide ((60 : Int) < (xs.length : Int)) = true := decide_eq_true (by omega)
            rw [e1]
            rfl
      | _ => first | (cases hl; done) | exact rz_if (EvT.to (et_or (y := false) (et_not (et_B (ev_cb (ea_cons (ev_var rfl) (ea_cons ev_ty ea_nil)) (cd_isList rfl)))) fun hB => absurd hB (by intro z; cases z)) (b' := true) rfl) (fun _ => rz_raise) fun hb => absurd hb (by intro z; cases z)

def tkOk (n : Int) (h m : D) : Bool := arePl n h && arePl n m && (match h, m with | .lst a, .lst b => decide ((intsD a ++ intsD b).Nodup) | _, _ => false)
def R_asked_board (ds : List D) (d : D) : Prop := ∃ n l h m, ds = [.int n, l, h, m] ∧ plOk (.int n) = true ∧ tame l = true ∧ lnOk n l = true ∧ tame h = true ∧ tame m = true ∧ tkOk n h m = true ∧ d = .non
def RE_asked_board (CP CL CT : Addr) (ds : List D) (C : Addr) : Prop := ∃ x l h m, ds = [x, l, h, m] ∧ tame x = true ∧ tame l = true ∧ tame h = true ∧ tame m = true ∧
  ((plOk x = false ∧ C = CP) ∨ (∃ n, x = .int n ∧ plOk x = true ∧ lnOk n l = false ∧ C = CL) ∨ (∃ n, x = .int n ∧ plOk x = true ∧ lnOk n l = true ∧ tkOk n h m = false ∧ C = CT))
theorem li_len {ns : List Int} (h : tame (Li ns) = true) : ns.length ≤ 63 := by
  have := (tame_lst h).1
  rw [List.length_map] at this
  exact this
theorem tkOk_li {n : Int} {hs ms : List Int} (h1 : arePl n (Li hs) = true) (h2 : arePl n (Li ms) = true) : tkOk n (Li hs) (Li ms) = decide ((hs ++ ms).Nodup) := by
  unfold tkOk
  rw [h1, h2]
  show (true && true && decide ((intsD (hs.map D.int) ++ intsD (ms.map D.int)).Nodup)) = _
  rw [ints_map, ints_map]
  rfl
theorem cnt_iff (ns : List Int) : decide ((cnt ns : Int) = (ns.length : Int)) = decide ns.Nodup := by
  by_cases h : ns.Nodup
  · rw [decide_eq_true h, decide_eq_true (by rw [cnt_nodup h])]
  · rw [decide_eq_false h, decide_eq_false fun e => h (nodup_of_cnt (by omega))]
theorem ok_asked_board {f CP CL CT : Addr} {fd : FuncData} (F : Fun K "asked_board" "asked_board" s_asked_board f fd) (B : Bn mg) (c_BadTakings : ExcC K mg "BadTakings" CT)
    (h_are_places : Has P w K mg base CX0 "are_places" 2 ["thing", "places"] (spD K w R_are_places)) (h_asked_lines : Has P w K mg base (L2.CX P w) "asked_lines" 4 ["places", "lines"] (spX K w R_asked_lines (RE_asked_lines CP CL))) :
    FnOk P w K mg base (L2.CX P w) 5 f fd P_asked_board (spX K w R_asked_board (RE_asked_board CP CL CT)) := by
  refine fn_X F sc_asked_board (fun ds d ⟨_, _, _, _, e, _⟩ => by rw [e]; rfl) (fun ds d ⟨_, _, _, _, e, _⟩ => by rw [e]; rfl) fun cdv A outer s H E hr => ?_
  refine ⟨_, (pss_cons (ps_expr (pcall h_asked_lines (hr.mono (by decide)) (passes_call (takes_of rfl rfl rfl rfl) (fun _ _ _ _ z => z)) (by rfl) (pa_cons (pv 0) (pa_cons (pv 1) pa_nil)))) (pss_cons (ps_if (PW.pt (pw_or (pt_not (pt_val (pcall h_are_places (hr.mono (by decide)) pass0 (by rfl) (pa_cons (pv 2) (pa_cons (pv 0) pa_nil))))) (pw_or1 (pt_not (pt_val (pcall h_are_places (hr.mono (by decide)) pass0 (by rfl) (pa_cons (pv 3) (pa_cons (pv 0) pa_nil)))))))) (pss_one (kRaise c_BadTakings rfl (takes_of rfl rfl rfl rfl) (by rfl))) pss_nil) (pss_one (ps_if (pt_cmpR (kNe K hr.units) (pe_callB (kLen K w) (by rfl) B.len PySem.boot_len (pa_cons (pe_callTy (kSetL K w rfl) (by rfl) B.set bt_set (pa_cons (pe_op op_cat (pv 2) (pv 3)) pa_nil)) pa_nil)) (pe_op op_add (pe_callB (kLen K w) (by rfl) B.len PySem.boot_len (pa_cons (pv 2) pa_nil)) (pe_callB (kLen K w) (by rfl) B.len PySem.boot_len (pa_cons (pv 3) pa_nil))) (nomark _)) (pss_one (kRaise c_BadTakings rfl (takes_of rfl rfl rfl rfl) (by rfl))) pss_nil)))), ?_, ?_⟩
  · rintro ds d ⟨n, l, h, m, rfl, hp, tl, hl, th, tm, hk, rfl⟩
    have hk2 := hk
    unfold tkOk at hk2
    rw [Bool.and_eq_true, Bool.and_eq_true] at hk2
    obtain ⟨hs, rfl, _⟩ := arePl_of hk2.1.1
    obtain ⟨ms, rfl, _⟩ := arePl_of hk2.1.2
    have z1 := li_len th
    have z2 := li_len tm
    rw [tkOk_li hk2.1.1 hk2.1.2] at hk
    refine .inr ⟨⟨_, sv_seq (sv_dropX (ea_cons (ev_var rfl) (ea_cons (ev_var rfl) ea_nil)) ⟨n, l, rfl, hp, tl, hl, rfl⟩) (sv_seq (sv_if (EvT.to (et_or (et_not (et_B (ev_are_places (ea_cons (ev_var rfl) (ea_cons (ev_var rfl) ea_nil)) ?_))) fun hB => (et_not (et_B (ev_are_places (ea_cons (ev_var rfl) (ea_cons (ev_var rfl) ea_nil)) ?_)))) (b' := false) ?_) (fun hb => absurd hb Bool.false_ne_true) fun _ => sv_next) (sv_if (EvT.to (et_test (ev_op (ev_cb (ea_cons (ev_cb (ea_cons (EvN.known (en_op (ev_var rfl) (ev_var rfl) (rn_catT ?_))) ea_nil) (cd_set ?_)) ea_nil) (cd_lenSet ?_)) (ev_op (ev_cb (ea_cons (ev_var rfl) ea_nil) cd_lenC) (ev_cb (ea_cons (ev_var rfl) ea_nil) cd_lenC) rd_add) rd_neI)) (b' := false) ?_) (fun hb => absurd hb Bool.false_ne_true) fun _ => sv_next))⟩, rfl⟩
    · exact th
    · exact tm
    · rw [hk2.1.1, hk2.1.2]
      rfl
    · first | omega | (rw [List.length_append]; omega)
    · first | omega | (rw [List.length_append]; omega)
    · first | omega | (rw [List.length_append]; omega)
    · have e := cnt_iff (hs ++ ms)
      rw [hk, List.length_append] at e
      have e2 : ((hs.length + ms.length : Nat) : Int) = (hs.length : Int) + (ms.length : Int) := by omega
      rw [e2] at e
      rw [e]
      rfl
  · rintro ds C ⟨x, l, h, m, rfl, tx, tl, th, tm, hc⟩
    rcases hc with ⟨hp, rfl⟩ | ⟨n, rfl, hp, hl, rfl⟩ | ⟨n, rfl, hp, hl, hk, rfl⟩
    · exact rz_seq (rz_dropX (ea_cons (ev_var rfl) (ea_cons (ev_var rfl) ea_nil)) ⟨x, l, rfl, tx, tl, .inl ⟨hp, rfl⟩⟩)
    · exact rz_seq (rz_dropX (ea_cons (ev_var rfl) (ea_cons (ev_var rfl) ea_nil)) ⟨.int n, l, rfl, tx, tl, .inr ⟨n, rfl, hp, hl, rfl⟩⟩)
    · refine rz_seq2 (sv_dropX (ea_cons (ev_var rfl) (ea_cons (ev_var rfl) ea_nil)) ⟨n, l, rfl, hp, tl, hl, rfl⟩) ?_
      by_cases h1 : arePl n h = true
      · by_cases h2 : arePl n m = true
        · obtain ⟨hs, rfl, _⟩ := arePl_of h1
          obtain ⟨ms, rfl, _⟩ := arePl_of h2
          have z1 := li_len th
          have z2 := li_len tm
          rw [tkOk_li h1 h2] at hk
          refine rz_seq2 (sv_if (EvT.to (et_or (et_not (et_B (ev_are_places (ea_cons (ev_var rfl) (ea_cons (ev_var rfl) ea_nil)) ?_))) fun hB => (et_not (et_B (ev_are_places (ea_cons (ev_var rfl) (ea_cons (ev_var rfl) ea_nil)) ?_)))) (b' := false) ?_) (fun hb => absurd hb Bool.false_ne_true) fun _ => sv_next) (rz_if (EvT.to (et_test (ev_op (ev_cb (ea_cons (ev_cb (ea_cons (EvN.known (en_op (ev_var rfl) (ev_var rfl) (rn_catT ?_))) ea_nil) (cd_set ?_)) ea_nil) (cd_lenSet ?_)) (ev_op (ev_cb (ea_cons (ev_var rfl) ea_nil) cd_lenC) (ev_cb (ea_cons (ev_var rfl) ea_nil) cd_lenC) rd_add) rd_neI)) (b' := true) ?_) (fun _ => rz_raise) fun hb => absurd hb (by intro z; cases z))
          · exact th
          · exact tm
          · rw [h1, h2]
            rfl
          · first | omega | (rw [List.length_append]; omega)
          · first | omega | (rw [List.length_append]; omega)
          · first | omega | (rw [List.length_append]; omega)
          · have e := cnt_iff (hs ++ ms)
            rw [hk, List.length_append] at e
            have e2 : ((hs.length + ms.length : Nat) : Int) = (hs.length : Int) + (ms.length : Int) := by omega
            rw [e2] at e
            rw [e]
            rfl
        · have h2 : arePl n m = false := by simpa using h2
          refine rz_seq (rz_if (EvT.to (et_or (et_not (et_B (ev_are_places (ea_cons (ev_var rfl) (ea_cons (ev_var rfl) ea_nil)) ?_))) fun hB => (et_not (et_B (ev_are_places (ea_cons (ev_var rfl) (ea_cons (ev_var rfl) ea_nil)) ?_)))) (b' := true) ?_) (fun _ => rz_raise) fun hb => absurd hb (by intro z; cases z))
          · exact th
          · exact tm
          · rw [h1, h2]
            rfl
      · have h1 : arePl n h = false := by simpa using h1
        refine rz_seq (rz_if (EvT.to (et_or (et_not (et_B (ev_are_places (ea_cons (ev_var rfl) (ea_cons (ev_var rfl) ea_nil)) ?_))) fun hB => (et_not (et_B (ev_are_places (ea_cons (ev_var rfl) (ea_cons (ev_var rfl) ea_nil)) ?_)))) (b' := true) ?_) (fun _ => rz_raise) fun hb => absurd hb (by intro z; cases z))
        · exact th
        · exact tm
        · rw [h1]
          rfl

/-! ### the lines that are alive -/
def Small (lines : List (List Int)) : Prop := lines.length ≤ 64 ∧ ∀ l ∈ lines, l.length ≤ 64
def aliveM (lines : List (List Int)) (mine : List Int) : List (List Int) := lines.filter fun l => !(l.any fun p => decide (p ∈ mine))
def R_alive (ds es : List D) : Prop := ∃ lines mine, ds = [Ll lines, Li mine] ∧ Small lines ∧ es = (aliveM lines mine).map Li
theorem ev_alive {Γ : List En} {ta : TA} {E : XK} {lines : List (List Int)} {mine : List Int} (h : EvA K w ta Γ [Ll lines, Li mine]) (hs : Small lines) : EvN K w (tCall (spN K w R_alive) [] E ta) Γ ((aliveM lines mine).map Li) := en_call h ⟨lines, mine, rfl, hs, rfl⟩
theorem any_map {α : Type} (f : α → Bool) : ∀ xs : List α, (xs.map f).any id = xs.any f
  | [] => rfl
  | x :: xs => by rw [List.map_cons, List.any_cons, List.any_cons, any_map f xs]; rfl
theorem all_map {α : Type} (f : α → Bool) : ∀ xs : List α, (xs.map f).all id = xs.all f
  | [] => rfl
  | x :: xs => by rw [List.map_cons, List.all_cons, List.all_cons, all_map f xs]; rfl
theorem ok_alive {f : Addr} {fd : FuncData} (F : Fun K "alive" "alive" s_alive f fd) (B : Bn mg) : FnOk P w K mg base CX0 1 f fd P_alive (spN K w R_alive) :=
  fn_N F sc_alive (fun ds es ⟨_, _, e, _⟩ => by rw [e]; rfl) fun cdv A outer s H E hr => ⟨_, (pss_one (ps_ret (pe_lc (own := [("line", 2)]) rfl sc_alive.nd (kIList K (pv 0)) (blkOk_by (by kernel_rfl)) (fun _ _ _ _ _ => (pg_name (i := 2) sc_alive.nd rfl (by first | exact Or.inl rfl | exact Or.inr rfl))) (fun _ _ _ _ _ => (pts_one (pt_not (pt_val (pe_callB (kAny K rfl) (by rfl) B.any bt_any (pa_cons (pe_lc (own := [("place", 3)]) rfl sc_alive.nd (kIList K (pv 2)) (blkOk_by (by kernel_rfl)) (fun _ _ _ _ _ => (pg_name (i := 3) sc_alive.nd rfl (by first | exact Or.inl rfl | exact Or.inr rfl))) (fun _ _ _ _ _ => pts_nil) (fun _ _ _ _ _ => (pe_cmpR (kIn K) (pv 3) (pv 1) (by rfl)))) pa_nil)))))) (fun _ _ _ _ _ => (pv 2))))), fun ds es hR => by
    obtain ⟨lines, mine, rfl, hs, rfl⟩ := hR
    refine sv_retN (EvN.to (en_lcT Li Li (ei_list (ev_var rfl)) (fun x hx => tc_name (by decide)) (fun x hx => (et_not (et_B (ev_cb (ea_cons (EvN.known (en_lcmT D.int D.bl (ei_list (ev_var rfl)) (fun x hx => tc_name (by decide)) (fun x hx => (ev_op (ev_var rfl) (ev_var rfl) rd_in)) ?_)) ea_nil) cd_any)))) (fun x hx hp => (ev_var rfl)) ?_) ?_)
    · exact Nat.le_trans (hs.2 _ (by assumption)) (by decide)
    · exact Nat.le_trans hs.1 (by decide)
    · rw [map_self]
      unfold aliveM
      simp only [any_map]⟩
end
end Lw
set_option Elab.async false
set_option linter.all false
set_option maxRecDepth 100000
set_option maxHeartbeats 8000000
namespace Lw
open PySem L2 PyProof.Rows Lh
abbrev s_weights : Stmt := topS 16
abbrev N_weights : List Str := ["lines", "his", "mine", "rest", "place", "line", "top", "free"]
abbrev P_weights : List Str := ["lines", "his", "mine"]
theorem sc_weights : FnScope N_weights P_weights (defScope s_weights) := ⟨rfl, rfl, rfl, by decide +kernel, rfl, by decide +kernel, by decide +kernel⟩
abbrev s_lowest : Stmt := topS 17
abbrev N_lowest : List Str := ["above", "below"]
abbrev P_lowest : List Str := ["above", "below"]
theorem sc_lowest : FnScope N_lowest P_lowest (defScope s_lowest) := ⟨rfl, rfl, rfl, by decide +kernel, rfl, by decide +kernel, by decide +kernel⟩
abbrev s_sum_of : Stmt := topS 18
abbrev N_sum_of : List Str := ["lines", "his", "mine", "weighed", "whole", "free", "weight"]
abbrev P_sum_of : List Str := ["lines", "his", "mine"]
theorem sc_sum_of : FnScope N_sum_of P_sum_of (defScope s_sum_of) := ⟨rfl, rfl, rfl, by decide +kernel, rfl, by decide +kernel, by decide +kernel⟩
abbrev s_danger : Stmt := topS 19
abbrev N_danger : List Str := ["places", "lines", "his", "mine"]
abbrev P_danger : List Str := ["places", "lines", "his", "mine"]
theorem sc_danger : FnScope N_danger P_danger (defScope s_danger) := ⟨rfl, rfl, rfl, by decide +kernel, rfl, by decide +kernel, by decide +kernel⟩
abbrev s_worths_of : Stmt := topS 20
abbrev N_worths_of : List Str := ["places", "lines", "his", "mine", "weighed", "whole", "found", "place", "much", "free", "weight"]
abbrev P_worths_of : List Str := ["places", "lines", "his", "mine"]
theorem sc_worths_of : FnScope N_worths_of P_worths_of (defScope s_worths_of) := ⟨rfl, rfl, rfl, by decide +kernel, rfl, by decide +kernel, by decide +kernel⟩
abbrev s_worths : Stmt := topS 21
abbrev N_worths : List Str := ["places", "lines", "his", "mine"]
abbrev P_worths : List Str := ["places", "lines", "his", "mine"]
theorem sc_worths : FnScope N_worths P_worths (defScope s_worths) := ⟨rfl, rfl, rfl, by decide +kernel, rfl, by decide +kernel, by decide +kernel⟩
abbrev s_sure : Stmt := topS 22
abbrev N_sure : List Str := ["places", "lines", "his", "mine", "above", "below"]
abbrev P_sure : List Str := ["places", "lines", "his", "mine"]
theorem sc_sure : FnScope N_sure P_sure (defScope s_sure) := ⟨rfl, rfl, rfl, by decide +kernel, rfl, by decide +kernel, by decide +kernel⟩
abbrev s_best : Stmt := topS 23
abbrev N_best : List Str := ["places", "lines", "his", "mine", "weighed", "found", "most", "place", "much", "free", "weight"]
abbrev P_best : List Str := ["places", "lines", "his", "mine"]
theorem sc_best : FnScope N_best P_best (defScope s_best) := ⟨rfl, rfl, rfl, by decide +kernel, rfl, by decide +kernel, by decide +kernel⟩
abbrev s_full : Stmt := topS 24
abbrev N_full : List Str := ["places", "lines", "his", "mine", "at", "line", "place"]
abbrev P_full : List Str := ["places", "lines", "his", "mine"]
theorem sc_full : FnScope N_full P_full (defScope s_full) := ⟨rfl, rfl, rfl, by decide +kernel, rfl, by decide +kernel, by decide +kernel⟩

/-! ### boards -/
structure Brd (n : Int) (lines : List (List Int)) : Prop where
  n1 : 1 ≤ n
  n2 : n ≤ 60
  ll : lines.length ≤ 60
  ln : ∀ l ∈ lines, l ≠ [] ∧ l.Pairwise (· < ·) ∧ ∀ p ∈ l, 0 ≤ p ∧ p < n
structure Tak (n : Int) (his mine : List Int) : Prop where
  r : ∀ p ∈ his ++ mine, 0 ≤ p ∧ p < n
  nd : (his ++ mine).Nodup
theorem up_len {n : Int} : ∀ {l : List Int} {lo : Int}, l.Pairwise (· < ·) → (∀ p ∈ l, lo ≤ p ∧ p < n) → (l.length : Int) ≤ max 0 (n - lo)
  | [], lo, _, _ => by simp only [List.length_nil]; omega
  | x :: r, lo, h, hr => by
    have h := List.pairwise_cons.mp h
    have hx := hr x List.mem_cons_self
    have ih := up_len (n := n) (l := r) (lo := x + 1) h.2 fun p hp => ⟨by have := h.1 p hp; omega, (hr p (List.mem_cons_of_mem _ hp)).2⟩
    rw [List.length_cons]
    omega
theorem nd_len {n : Int} {l : List Int} (h : l.Nodup) (hr : ∀ p ∈ l, 0 ≤ p ∧ p < n) : (l.length : Int) ≤ max 0 n := by
  have e := cnt_of (l := srtU l) (ns := l) (up_nodup (srtU_up l)) fun k => (srtU_mem k l).symm
  rw [cnt_nodup h] at e
  have := up_len (n := n) (l := srtU l) (lo := 0) (srtU_up l) fun p hp => hr p ((srtU_mem p l).mp hp)
  omega
theorem Brd.small {n : Int} {lines : List (List Int)} (b : Brd n lines) : Small lines := ⟨by have := b.ll; omega, fun l hl => by
  obtain ⟨_, h2, h3⟩ := b.ln l hl
  have := up_len h2 h3
  have := b.n1
  have := b.n2
  omega⟩
theorem Tak.lens {n : Int} {his mine : List Int} (t : Tak n his mine) (hn : n ≤ 60) (h1 : 1 ≤ n) : his.length + mine.length ≤ 60 := by
  have := nd_len t.nd t.r
  rw [List.length_append] at this
  omega
theorem Brd.asked {n : Int} {lines : List (List Int)} (b : Brd n lines) : plOk (.int n) = true ∧ tame (Ll lines) = true ∧ lnOk n (Ll lines) = true := by
  have hs := b.small
  refine ⟨?_, tame_ll (by have := b.ll; omega) fun l hl => ?_, ?_⟩
  · show (decide (1 ≤ n) && decide (n ≤ 60)) = true
    rw [decide_eq_true b.n1, decide_eq_true b.n2]
    rfl
  · obtain ⟨_, h2, h3⟩ := b.ln l hl
    have := up_len h2 h3
    have := b.n1
    have := b.n2
    omega
  · show (decide ((lines.map Li).length ≤ 60) && (lines.map Li).all (isLn n)) = true
    rw [List.length_map, decide_eq_true b.ll, List.all_map, Bool.true_and, List.all_eq_true]
    intro l hl
    obtain ⟨h1, h2, h3⟩ := b.ln l hl
    show isLn n (Li l) = true
    unfold isLn
    rw [arePl_li h3]
    show (true && (!(intsD (l.map D.int)).isEmpty && decide (intsD (l.map D.int) = srtU (intsD (l.map D.int))))) = true
    rw [ints_map, srtU_of_up h2]
    cases l with
    | nil => exact absurd rfl h1
    | cons x r => simp
theorem Tak.asked {n : Int} {his mine : List Int} (t : Tak n his mine) (hn : n ≤ 60) (h1 : 1 ≤ n) : tame (Li his) = true ∧ tame (Li mine) = true ∧ tkOk n (Li his) (Li mine) = true := by
  have := t.lens hn h1
  refine ⟨tame_li (by omega), tame_li (by omega), ?_⟩
  rw [tkOk_li (arePl_li fun i hi => t.r i (List.mem_append_left _ hi)) (arePl_li fun i hi => t.r i (List.mem_append_right _ hi)), decide_eq_true t.nd]
theorem asked_ok {n : Int} {lines : List (List Int)} {his mine : List Int} (b : Brd n lines) (t : Tak n his mine) : R_asked_board [.int n, Ll lines, Li his, Li mine] .non := by
  obtain ⟨a1, a2, a3⟩ := b.asked
  obtain ⟨t1, t2, t3⟩ := t.asked b.n2 b.n1
  exact ⟨n, _, _, _, rfl, a1, a2, a3, t1, t2, t3, rfl⟩

theorem snoc_take {α : Type} {xs : List α} {i : Nat} {x : α} (h : xs[i]? = some x) : xs.take (i + 1) = xs.take i ++ [x] := by rw [List.take_add_one, h]; rfl
theorem upI_int {n : Int} {i : Nat} {d : D} (h : ((upI n).map D.int)[i]? = some d) : d = .int (i : Int) ∧ i < n.toNat := by
  have hi : i < n.toNat := by
    have := (List.getElem?_eq_some_iff.mp h).1
    rw [List.length_map, upI_length] at this
    exact this
  rw [List.getElem?_map, upI_get hi] at h
  exact ⟨(Option.some.inj h).symm, hi⟩
theorem upI_len {n : Int} : ((upI n).map D.int).length = n.toNat := by rw [List.length_map, upI_length]
/-! ### what is reckoned -/
def restM (lines : List (List Int)) (his mine : List Int) : List (List Int) := (aliveM lines mine).map fun l => l.filter fun p => !decide (p ∈ his)
def lensI (rest : List (List Int)) : List Int := rest.map fun f => (f.length : Int)
def maxD (ns : List Int) (d : Int) : Int := if ns = [] then d else maxI ns
def topM (lines : List (List Int)) (his mine : List Int) : Nat := (maxD (lensI (restM lines his mine)) 0).toNat
def weighedM (lines : List (List Int)) (his mine : List Int) : List (List Int × Int) := (restM lines his mine).map fun f => (f, 2 ^ (topM lines his mine - f.length))
/-- in lowest terms, below a power of two -/
def lowM (a : Int) : Nat → Int × Int
  | 0 => (a, 1)
  | k + 1 => if a % 2 = 0 then lowM (a / 2) k else (a, 2 ^ (k + 1))
def sumW (ws : List (List Int × Int)) : Int := (ws.map fun q => q.2).sum
def dangM (lines : List (List Int)) (his mine : List Int) : Int × Int := lowM (sumW (weighedM lines his mine)) (topM lines his mine)
def muchM (ws : List (List Int × Int)) (p : Int) : Int := sumW (ws.filter fun q => decide (p ∈ q.1))
def worthsM (n : Int) (lines : List (List Int)) (his mine : List Int) : List (Option (Int × Int)) :=
  (upI n).map fun p => if (decide (p ∈ his) || decide (p ∈ mine)) = true then none else some (lowM (muchM (weighedM lines his mine) p) (topM lines his mine))
abbrev cW : Option (Int × Int) → D
  | none => .non
  | some q => Tp2 D.int D.int q
def cO : Option Int → D
  | none => .non
  | some q => .int q
def bestStep (ws : List (List Int × Int)) (his mine : List Int) (s : Option Int × Int) (p : Int) : Option Int × Int :=
  if (decide (s.2 < muchM ws p) && (!decide (p ∈ his) && !decide (p ∈ mine))) = true then (some p, muchM ws p) else s
def bestM (n : Int) (lines : List (List Int)) (his mine : List Int) : Option Int := ((upI n).foldl (bestStep (weighedM lines his mine) his mine) (none, -1)).1
def fullM (lines : List (List Int)) (his : List Int) : List Int := ((enumI lines).filter fun q => q.2.all fun p => decide (p ∈ his)).map fun q => q.1

theorem max_len {ns : List Int} {d b : Int} (hd : d ≤ b) (h : ∀ k ∈ ns, k ≤ b) : maxD ns d ≤ b := by
  unfold maxD
  split
  · exact hd
  · exact h _ (maxI_mem (by assumption))
theorem max_ge {ns : List Int} {d k : Int} (h : k ∈ ns) : k ≤ maxD ns d := by
  unfold maxD
  rw [if_neg (by intro z; rw [z] at h; cases h)]
  exact maxI_le h
theorem filter_len {α : Type} (p : α → Bool) (l : List α) : (l.filter p).length ≤ l.length := List.length_filter_le _ _
theorem rest_small {lines : List (List Int)} {his mine : List Int} (h : Small lines) : (restM lines his mine).length ≤ 64 ∧ ∀ f ∈ restM lines his mine, f.length ≤ 64 := by
  unfold restM aliveM
  refine ⟨?_, fun f hf => ?_⟩
  · rw [List.length_map]
    exact Nat.le_trans (filter_len _ _) h.1
  · obtain ⟨l, hl, rfl⟩ := List.mem_map.mp hf
    exact Nat.le_trans (filter_len _ _) (h.2 l (List.mem_filter.mp hl).1)
theorem alive_small {lines : List (List Int)} {mine : List Int} (h : Small lines) : Small (aliveM lines mine) := ⟨Nat.le_trans (filter_len _ _) h.1, fun l hl => h.2 l (List.mem_filter.mp hl).1⟩
theorem topI_range {lines : List (List Int)} {his mine : List Int} (h : Small lines) : 0 ≤ maxD (lensI (restM lines his mine)) 0 ∧ maxD (lensI (restM lines his mine)) 0 ≤ 64 := by
  refine ⟨?_, max_len (by decide) fun k hk => ?_⟩
  · unfold maxD
    split
    · exact Int.le_refl _
    · rename_i hn
      obtain ⟨f, _, e⟩ := List.mem_map.mp (maxI_mem hn)
      exact e ▸ Int.natCast_nonneg _
  · obtain ⟨f, hf, rfl⟩ := List.mem_map.mp hk
    have := (rest_small h).2 f hf
    omega
theorem top_ge {lines : List (List Int)} {his mine : List Int} {f : List Int} (hf : f ∈ restM lines his mine) : (f.length : Int) ≤ maxD (lensI (restM lines his mine)) 0 := max_ge (List.mem_map.mpr ⟨f, hf, rfl⟩)
theorem top_le {lines : List (List Int)} {his mine : List Int} (h : Small lines) : topM lines his mine ≤ 64 := by
  have := topI_range (his := his) (mine := mine) h
  unfold topM
  omega

section
variable {P : Program} {w : World} {K : PySem.W.Frag} {mg : Str → Option Value} {base : Heap}
theorem ev_maxDI {Γ : List En} {te tb : TE} {ns : List Int} {d : Int} (h : EvD K w te Γ (Li ns)) (h2 : EvD K w tb Γ (.int d)) : EvD K w (tCKw (rMaxD K) (tCons te tNil) (tCons tb tNil)) Γ (.int (maxD ns d)) :=
  (ev_maxD h h2).to (by unfold maxD; split <;> rfl)
abbrev cWs : List (List Int × Int) × Int → D := Tp2 (Lc (Tp2 Li D.int)) D.int
def R_weights (ds : List D) (d : D) : Prop := ∃ lines his mine, ds = [Ll lines, Li his, Li mine] ∧ Small lines ∧ d = cWs (weighedM lines his mine, 2 ^ topM lines his mine)
theorem ev_weights {Γ : List En} {ta : TA} {E : XK} {lines : List (List Int)} {his mine : List Int} (h : EvA K w ta Γ [Ll lines, Li his, Li mine]) (hs : Small lines) :
    EvD K w (tCall (spD K w R_weights) [] E ta) Γ (cWs (weighedM lines his mine, 2 ^ topM lines his mine)) := ev_call h ⟨lines, his, mine, rfl, hs, rfl⟩
theorem ok_weights {f : Addr} {fd : FuncData} (F : Fun K "weights" "weights" s_weights f fd) (B : Bn mg) (h_alive : Has P w K mg base CX0 "alive" 1 ["lines", "mine"] (spN K w R_alive)) : FnOk P w K mg base CX0 2 f fd P_weights (spD K w R_weights) :=
  fn_D F sc_weights (fun ds d ⟨_, _, _, e, _⟩ => by rw [e]; rfl) fun cdv A outer s H E hr => ⟨_, (pss_cons (ps_setLc (i := 3) (own := [("line", 5)]) rfl sc_weights.nd rfl rfl (sw_true rfl rfl rfl (by decide +kernel)) (kIList K (pcall h_alive (hr.mono (by decide)) pass0 (by rfl) (pa_cons (pv 0) (pa_cons (pv 2) pa_nil)))) (blkOk_by (by kernel_rfl)) (fun _ _ _ _ _ => (pg_name (i := 5) sc_weights.nd rfl (by first | exact Or.inl rfl | exact Or.inr rfl))) (fun _ _ _ _ _ => pts_nil) (fun _ _ _ _ _ => (pe_lc (own := [("place", 4)]) rfl sc_weights.nd (kIList K (pv 5)) (blkOk_by (by kernel_rfl)) (fun _ _ _ _ _ => (pg_name (i := 4) sc_weights.nd rfl (by first | exact Or.inl rfl | exact Or.inr rfl))) (fun _ _ _ _ _ => (pts_one (pt_cmpR (kNin K) (pv 4) (pv 1) (by rfl)))) (fun _ _ _ _ _ => (pv 4))))) (pss_cons (ps_set (i := 6) sc_weights.nd rfl (by first | exact Or.inl rfl | exact Or.inr rfl) (pe_callBK (kMaxD K rfl) (by rfl) B.max bt_max (pa_cons (pe_lc (own := [("free", 7)]) rfl sc_weights.nd (kIList K (pv 3)) (blkOk_by (by kernel_rfl)) (fun _ _ _ _ _ => (pg_name (i := 7) sc_weights.nd rfl (by first | exact Or.inl rfl | exact Or.inr rfl))) (fun _ _ _ _ _ => pts_nil) (fun _ _ _ _ _ => (pe_callB (kLen K w) (by rfl) B.len PySem.boot_len (pa_cons (pv 7) pa_nil)))) pa_nil) (pk_cons pe_int pk_nil))) (pss_one (ps_ret (pe_tup (pa_cons (pe_lc (own := [("free", 7)]) rfl sc_weights.nd (kIList K (pv 3)) (blkOk_by (by kernel_rfl)) (fun _ _ _ _ _ => (pg_name (i := 7) sc_weights.nd rfl (by first | exact Or.inl rfl | exact Or.inr rfl))) (fun _ _ _ _ _ => pts_nil) (fun _ _ _ _ _ => (pe_tup (pa_cons (pv 7) (pa_cons (pe_op op_shl pe_int (pe_op op_sub (pv 6) (pe_callB (kLen K w) (by rfl) B.len PySem.boot_len (pa_cons (pv 7) pa_nil)))) pa_nil))))) (pa_cons (pe_op op_shl pe_int (pv 6)) pa_nil))))))), fun ds d hR => by
    obtain ⟨lines, his, mine, rfl, hs, rfl⟩ := hR
    have hr1 := rest_small (his := his) (mine := mine) hs
    have ht := topI_range (his := his) (mine := mine) hs
    refine sv_seq (sv_asg (d := Ll (restM lines his mine)) (EvD.to (EvN.known (en_lcmT Li Li (ei_list (EvN.known (ev_alive (ea_cons (ev_var rfl) (ea_cons (ev_var rfl) ea_nil)) ?_))) (fun x hx => tc_name (by decide)) (fun x hx => (EvN.known (en_lcT D.int D.int (ei_list (ev_var rfl)) (fun x hx => tc_name (by decide)) (fun x hx => (et_test (ev_op (ev_var rfl) (ev_var rfl) rd_nin))) (fun x hx hp => (ev_var rfl)) ?_))) ?_)) ?e1)) (sv_seq (sv_asg (d := .int (maxD (lensI (restM lines his mine)) 0)) (EvD.to (ev_maxDI (EvN.known (en_lcmT Li D.int (ei_list (ev_var rfl)) (fun x hx => tc_name (by decide)) (fun x hx => (ev_cb (ea_cons (ev_var rfl) ea_nil) cd_lenC)) ?_)) ev_int) ?e2)) (sv_ret (EvD.to (ev_tup2 (Lc (Tp2 Li D.int)) D.int (EvN.known (en_lcmT Li (Tp2 Li D.int) (ei_list (ev_var rfl)) (fun x hx => tc_name (by decide)) (fun x hx => (ev_tup2 Li D.int (ev_var rfl) (ev_op ev_int (ev_op (ev_var rfl) (ev_cb (ea_cons (ev_var rfl) ea_nil) cd_lenC) rd_sub) (rd_shl ?_)))) ?_)) (ev_op ev_int (ev_var rfl) (rd_shl ?_))) ?e3)))
    case e1 =>
      unfold restM
      simp only [map_self]
    case e2 => rfl
    case e3 =>
      show cWs _ = cWs _
      refine congrArg cWs (Prod.ext (List.map_congr_left fun f hf => ?_) ?_)
      · have := top_ge hf
        have e2 : (maxD (lensI (restM lines his mine)) 0 - (f.length : Int)).toNat = topM lines his mine - f.length := by unfold topM; omega
        rw [e2, Int.one_mul]
      · exact Int.one_mul _
    · exact hs
    · exact Nat.le_trans ((alive_small hs).2 _ (by assumption)) (by decide)
    · exact Nat.le_trans (alive_small hs).1 (by decide)
    · exact Nat.le_trans hr1.1 (by decide)
    · have := top_ge (by assumption)
      exact ⟨by omega, by omega, by decide⟩
    · exact Nat.le_trans hr1.1 (by decide)
    · exact ⟨by omega, by omega, by decide⟩⟩

/-! ### lowest terms -/
def trn (a : Int) : Nat → Nat
  | 0 => 0
  | k + 1 => if a % 2 = 0 then trn (a / 2) k + 1 else 0
theorem trn_le : ∀ (k : Nat) (a : Int), trn a k ≤ k
  | 0, _ => Nat.le_refl _
  | k + 1, a => by
    unfold trn
    split
    · have := trn_le k (a / 2)
      omega
    · omega
theorem half_pow (a : Int) (i : Nat) : a / 2 / 2 ^ i = a / 2 ^ (i + 1) := by
  rw [Int.pow_succ, Int.mul_comm, Int.ediv_ediv_of_nonneg (by decide)]
theorem low_eq : ∀ (k : Nat) (a : Int), lowM a k = (a / 2 ^ trn a k, 2 ^ (k - trn a k))
  | 0, a => by simp [lowM, trn]
  | k + 1, a => by
    unfold lowM trn
    by_cases h : a % 2 = 0
    · rw [if_pos h, if_pos h, low_eq k (a / 2), half_pow]
      congr 2
      omega
    · rw [if_neg h, if_neg h]
      simp
theorem trn_even : ∀ (k : Nat) (a : Int) (i : Nat), i < trn a k → (a / 2 ^ i) % 2 = 0
  | 0, a, i, h => by simp [trn] at h
  | k + 1, a, i, h => by
    unfold trn at h
    by_cases e : a % 2 = 0
    · rw [if_pos e] at h
      cases i with
      | zero => simpa using e
      | succ i =>
        rw [← half_pow]
        exact trn_even k (a / 2) i (by omega)
    · rw [if_neg e] at h
      omega
theorem trn_stop : ∀ (k : Nat) (a : Int), trn a k = k ∨ (a / 2 ^ trn a k) % 2 ≠ 0
  | 0, a => .inl rfl
  | k + 1, a => by
    unfold trn
    by_cases e : a % 2 = 0
    · rw [if_pos e, ← half_pow]
      rcases trn_stop k (a / 2) with h | h
      · exact .inl (by omega)
      · exact .inr h
    · rw [if_neg e]
      exact .inr (by simpa using e)
theorem pow_one {k : Nat} (h : 0 < k) : (1 : Int) < 2 ^ k := by
  obtain ⟨j, rfl⟩ : ∃ j, k = j + 1 := ⟨k - 1, by omega⟩
  have : (0 : Int) < 2 ^ j := Int.pow_pos (by decide)
  rw [Int.pow_succ]
  omega
def R_lowest (ds : List D) (d : D) : Prop := ∃ (a : Int) (k : Nat), ds = [.int a, .int (2 ^ k)] ∧ d = Tp2 D.int D.int (lowM a k)
theorem ev_lowest {Γ : List En} {ta : TA} {E : XK} {a : Int} {k : Nat} (h : EvA K w ta Γ [.int a, .int (2 ^ k)]) : EvD K w (tCall (spD K w R_lowest) [] E ta) Γ (Tp2 D.int D.int (lowM a k)) := ev_call h ⟨a, k, rfl, rfl⟩
theorem ok_lowest {f : Addr} {fd : FuncData} (F : Fun K "lowest" "lowest" s_lowest f fd) (B : Bn mg) : FnOk P w K mg base CX0 1 f fd P_lowest (spD K w R_lowest) :=
  fn_D F sc_lowest (fun ds d ⟨_, _, e, _⟩ => by rw [e]; rfl) fun cdv A outer s H E hr => ⟨_, (pss_cons (ps_while PassesOwn.never (PW.pt (pw_and (pt_cmpR (kEq K hr.units) (pe_op op_modN (pv 0) pe_int) pe_int (nomark _)) (pw_and1 (pt_cmpR op_gt (pv 1) pe_int (nomark _))))) (pss_cons (ps_set (i := 0) sc_lowest.nd rfl (by first | exact Or.inl rfl | exact Or.inr rfl) (pe_op op_fdivN (pv 0) pe_int)) (pss_one (ps_set (i := 1) sc_lowest.nd rfl (by first | exact Or.inl rfl | exact Or.inr rfl) (pe_op op_fdivN (pv 1) pe_int))))) (pss_one (ps_ret (pe_tup (pa_cons (pv 0) (pa_cons (pv 1) pa_nil)))))), fun ds d hR => by
    obtain ⟨a, k, rfl, rfl⟩ := hR
    let gs : Nat → List En := fun i => [.im (.int (a / 2 ^ i)), .im (.int (2 ^ (k - i)))]
    have e0 : ent N_lowest.length [D.int a, D.int (2 ^ k)] = gs 0 := by
      show [En.im (D.int a), En.im (D.int (2 ^ k))] = [.im (.int (a / 2 ^ 0)), .im (.int (2 ^ (k - 0)))]
      simp
    rw [e0]
    refine sv_seq (sv_while gs (trn a k) (fun i hi => EvT.to (et_and (et_test (ev_op (ev_op (ev_var rfl) ev_int (rd_mod ?_)) ev_int rd_eqI)) fun hB => (et_test (ev_op (ev_var rfl) ev_int rd_gt))) ?t1) (fun i hi => Sv.to (sv_seq (sv_asg (ev_op (ev_var rfl) ev_int (rd_fdiv ?_))) (sv_asg (ev_op (ev_var rfl) ev_int (rd_fdiv ?_)))) ?t2) (EvT.to (et_and (et_test (ev_op (ev_op (ev_var rfl) ev_int (rd_mod ?_)) ev_int rd_eqI)) fun hB => (et_test (ev_op (ev_var rfl) ev_int rd_gt))) ?t3)) (sv_ret (EvD.to (ev_tup2 D.int D.int (ev_var rfl) (ev_var rfl)) ?t4))
    case t1 =>
      have h1 := trn_even k a i hi
      have h2 := trn_le k a
      have h3 : (1 : Int) < 2 ^ (k - i) := pow_one (by omega)
      rw [Int.fmod_eq_emod_of_nonneg _ (by decide), h1, decide_eq_true h3]
      rfl
    case t2 =>
      have h2 := trn_le k a
      show Out.nx [.im (.int ((a / 2 ^ i).fdiv 2)), .im (.int (Int.fdiv (2 ^ (k - i)) 2))] = Out.nx [.im (.int (a / 2 ^ (i + 1))), .im (.int (2 ^ (k - (i + 1))))]
      have e1 : (a / 2 ^ i).fdiv 2 = a / 2 ^ (i + 1) := by
        rw [Int.fdiv_eq_ediv_of_nonneg _ (by decide), Int.pow_succ, Int.ediv_ediv_of_nonneg (Int.le_of_lt (Int.pow_pos (by decide)))]
      have e2 : Int.fdiv (2 ^ (k - i)) 2 = 2 ^ (k - (i + 1)) := by
        rw [Int.fdiv_eq_ediv_of_nonneg _ (by decide), show k - i = k - (i + 1) + 1 by omega, Int.pow_succ]
        exact Int.mul_ediv_cancel _ (by decide)
      rw [e1, e2]
    case t3 =>
      rcases trn_stop k a with h | h
      · rw [h, Nat.sub_self]
        show (_ && decide ((1 : Int) < 1)) = false
        simp
      · rw [Int.fmod_eq_emod_of_nonneg _ (by decide), decide_eq_false h]
        rfl
    case t4 => rw [low_eq]
    all_goals first | decide | exact (⟨by decide, by decide⟩ : CDivN _ 2)⟩

def R_sum_of (ds : List D) (d : D) : Prop := ∃ lines his mine, ds = [Ll lines, Li his, Li mine] ∧ Small lines ∧ d = Tp2 D.int D.int (dangM lines his mine)
theorem ev_sum_of {Γ : List En} {ta : TA} {E : XK} {lines : List (List Int)} {his mine : List Int} (h : EvA K w ta Γ [Ll lines, Li his, Li mine]) (hs : Small lines) :
    EvD K w (tCall (spD K w R_sum_of) [] E ta) Γ (Tp2 D.int D.int (dangM lines his mine)) := ev_call h ⟨lines, his, mine, rfl, hs, rfl⟩
theorem weighed_len {lines : List (List Int)} {his mine : List Int} (hs : Small lines) : (weighedM lines his mine).length ≤ 64 := by
  unfold weighedM
  rw [List.length_map]
  exact (rest_small hs).1
theorem ok_sum_of {f : Addr} {fd : FuncData} (F : Fun K "sum_of" "sum_of" s_sum_of f fd) (B : Bn mg) (h_weights : Has P w K mg base CX0 "weights" 2 ["lines", "his", "mine"] (spD K w R_weights)) (h_lowest : Has P w K mg base CX0 "lowest" 1 ["above", "below"] (spD K w R_lowest)) :
    FnOk P w K mg base CX0 3 f fd P_sum_of (spD K w R_sum_of) :=
  fn_D F sc_sum_of (fun ds d ⟨_, _, _, e, _⟩ => by rw [e]; rfl) fun cdv A outer s H E hr => ⟨_, (pss_cons (ps_asg (pcall h_weights (hr.mono (by decide)) pass0 (by rfl) (pa_cons (pv 0) (pa_cons (pv 1) (pa_cons (pv 2) pa_nil)))) (kTup K (n := 2) rfl (pgs_cons (pg_name (i := 3) sc_sum_of.nd rfl (by first | exact Or.inl rfl | exact Or.inr rfl)) (pgs_cons (pg_name (i := 4) sc_sum_of.nd rfl (by first | exact Or.inl rfl | exact Or.inr rfl)) pgs_nil)))) (pss_one (ps_ret (pcall h_lowest (hr.mono (by decide)) pass0 (by rfl) (pa_cons (pe_callB (kSum K rfl) (by rfl) B.sum bt_sum (pa_cons (pe_lc (own := [("free", 5), ("weight", 6)]) rfl sc_sum_of.nd (kIList K (pv 3)) (blkOk_by (by kernel_rfl)) (fun _ _ _ _ _ => (kTup K (n := 2) rfl (pgs_cons (pg_name (i := 5) sc_sum_of.nd rfl (by first | exact Or.inl rfl | exact Or.inr rfl)) (pgs_cons (pg_name (i := 6) sc_sum_of.nd rfl (by first | exact Or.inl rfl | exact Or.inr rfl)) pgs_nil)))) (fun _ _ _ _ _ => pts_nil) (fun _ _ _ _ _ => (pv 6))) pa_nil)) (pa_cons (pv 4) pa_nil)))))), fun ds d hR => by
    obtain ⟨lines, his, mine, rfl, hs, rfl⟩ := hR
    refine sv_seq (sv_asg2T (ev_weights (ea_cons (ev_var rfl) (ea_cons (ev_var rfl) (ea_cons (ev_var rfl) ea_nil))) ?_)) (sv_ret (EvD.to (ev_lowest (ea_cons (ev_cb (ea_cons (EvN.known (en_lcmT (Tp2 Li D.int) D.int (ei_list (ev_var rfl)) (fun x hx => tc_pair (by decide) (by decide)) (fun x hx => (ev_var rfl)) ?_)) ea_nil) cd_sum) (ea_cons (ev_var rfl) ea_nil))) ?e))
    case e => rfl
    · exact hs
    · exact Nat.le_trans (weighed_len hs) (by decide)⟩

def R_danger (ds : List D) (d : D) : Prop := ∃ n lines his mine, ds = [.int n, Ll lines, Li his, Li mine] ∧ Brd n lines ∧ Tak n his mine ∧ d = Tp2 D.int D.int (dangM lines his mine)
theorem ev_danger {Γ : List En} {ta : TA} {E : XK} {RE : List D → Addr → Prop} {n : Int} {lines : List (List Int)} {his mine : List Int} (h : EvA K w ta Γ [.int n, Ll lines, Li his, Li mine]) (b : Brd n lines) (t : Tak n his mine) :
    EvD K w (tCall (spX K w R_danger RE) [] E ta) Γ (Tp2 D.int D.int (dangM lines his mine)) := ev_callX h ⟨n, lines, his, mine, rfl, b, t, rfl⟩
theorem ok_danger {f CP CL CT : Addr} {fd : FuncData} (F : Fun K "danger" "danger" s_danger f fd) (B : Bn mg) (h_asked_board : Has P w K mg base (L2.CX P w) "asked_board" 5 ["places", "lines", "his", "mine"] (spX K w R_asked_board (RE_asked_board CP CL CT)))
    (h_sum_of : Has P w K mg base CX0 "sum_of" 3 ["lines", "his", "mine"] (spD K w R_sum_of)) : FnOk P w K mg base (L2.CX P w) 6 f fd P_danger (spX K w R_danger (RE_asked_board CP CL CT)) :=
  fn_X F sc_danger (fun ds d ⟨_, _, _, _, e, _⟩ => by rw [e]; rfl) (fun ds d ⟨_, _, _, _, e, _⟩ => by rw [e]; rfl) fun cdv A outer s H E hr => ⟨_, (pss_cons (ps_expr (pcall h_asked_board (hr.mono (by decide)) (passes_call (takes_of rfl rfl rfl rfl) (fun _ _ _ _ z => z)) (by rfl) (pa_cons (pv 0) (pa_cons (pv 1) (pa_cons (pv 2) (pa_cons (pv 3) pa_nil)))))) (PSs.nox (pss_one (ps_ret (pcall h_sum_of (hr.mono (by decide)) pass0 (by rfl) (pa_cons (pv 1) (pa_cons (pv 2) (pa_cons (pv 3) pa_nil)))))))), by
    rintro ds d ⟨n, lines, his, mine, rfl, b, t, rfl⟩
    refine .inl (sv_seq (sv_dropX (ea_cons (ev_var rfl) (ea_cons (ev_var rfl) (ea_cons (ev_var rfl) (ea_cons (ev_var rfl) ea_nil)))) (asked_ok b t)) (sv_ret (ev_sum_of (ea_cons (ev_var rfl) (ea_cons (ev_var rfl) (ea_cons (ev_var rfl) ea_nil))) ?_)))
    exact b.small, by
    intro ds C h
    obtain ⟨x, l, hh, m, rfl, _⟩ := id h
    exact rz_seq (rz_dropX (ea_cons (ev_var rfl) (ea_cons (ev_var rfl) (ea_cons (ev_var rfl) (ea_cons (ev_var rfl) ea_nil)))) h)⟩

/-! ### worths -/
def R_worths_of (ds es : List D) : Prop := ∃ n lines his mine, ds = [.int n, Ll lines, Li his, Li mine] ∧ 0 ≤ n ∧ n ≤ 60 ∧ Small lines ∧ es = (worthsM n lines his mine).map cW
theorem ev_worths_of {Γ : List En} {ta : TA} {E : XK} {n : Int} {lines : List (List Int)} {his mine : List Int} (h : EvA K w ta Γ [.int n, Ll lines, Li his, Li mine]) (h0 : 0 ≤ n ∧ n ≤ 60 ∧ Small lines) :
    EvN K w (tCall (spN K w R_worths_of) [] E ta) Γ ((worthsM n lines his mine).map cW) := en_call h ⟨n, lines, his, mine, rfl, h0.1, h0.2.1, h0.2.2, rfl⟩
theorem ok_worths_of {f : Addr} {fd : FuncData} (F : Fun K "worths_of" "worths_of" s_worths_of f fd) (B : Bn mg) (h_weights : Has P w K mg base CX0 "weights" 2 ["lines", "his", "mine"] (spD K w R_weights)) (h_lowest : Has P w K mg base CX0 "lowest" 1 ["above", "below"] (spD K w R_lowest)) :
    FnOk P w K mg base CX0 3 f fd P_worths_of (spN K w R_worths_of) :=
  fn_N F sc_worths_of (fun ds d ⟨_, _, _, _, e, _⟩ => by rw [e]; rfl) fun cdv A outer s H E hr => ⟨_, (pss_cons (ps_asg (pcall h_weights (hr.mono (by decide)) pass0 (by rfl) (pa_cons (pv 1) (pa_cons (pv 2) (pa_cons (pv 3) pa_nil)))) (kTup K (n := 2) rfl (pgs_cons (pg_name (i := 4) sc_worths_of.nd rfl (by first | exact Or.inl rfl | exact Or.inr rfl)) (pgs_cons (pg_name (i := 5) sc_worths_of.nd rfl (by first | exact Or.inl rfl | exact Or.inr rfl)) pgs_nil)))) (pss_cons (ps_set (i := 6) sc_worths_of.nd rfl (by first | exact Or.inl rfl | exact Or.inr rfl) (pe_lst pa_nil)) (pss_cons (ps_for PassesOwn.never rfl (pi_range1 (by rfl) B.range (pa_cons (pv 0) pa_nil)) (pg_name (i := 7) sc_worths_of.nd rfl (by first | exact Or.inl rfl | exact Or.inr rfl)) (pss_cons (ps_set (i := 8) sc_worths_of.nd rfl (by first | exact Or.inl rfl | exact Or.inr rfl) (pe_callB (kSum K rfl) (by rfl) B.sum bt_sum (pa_cons (pe_lc (own := [("free", 9), ("weight", 10)]) rfl sc_worths_of.nd (kIList K (pv 4)) (blkOk_by (by kernel_rfl)) (fun _ _ _ _ _ => (kTup K (n := 2) rfl (pgs_cons (pg_name (i := 9) sc_worths_of.nd rfl (by first | exact Or.inl rfl | exact Or.inr rfl)) (pgs_cons (pg_name (i := 10) sc_worths_of.nd rfl (by first | exact Or.inl rfl | exact Or.inr rfl)) pgs_nil)))) (fun _ _ _ _ _ => (pts_one (pt_cmpR (kIn K) (pv 7) (pv 9) (by rfl)))) (fun _ _ _ _ _ => (pv 10))) pa_nil))) (pss_one (ps_expr (kAppend K (pv 6) (pe_ifExp (PW.pt (pw_or (pt_cmpR (kIn K) (pv 7) (pv 2) (by rfl)) (pw_or1 (pt_cmpR (kIn K) (pv 7) (pv 3) (by rfl))))) pe_non (pcall h_lowest (hr.mono (by decide)) pass0 (by rfl) (pa_cons (pv 8) (pa_cons (pv 5) pa_nil))))))))) (pss_one (ps_ret (pv 6)))))), fun ds es hR => by
    obtain ⟨n, lines, his, mine, rfl, n0, n1, hs, rfl⟩ := hR
    let ws := weighedM lines his mine
    let W := worthsM n lines his mine
    let gs : Nat → List En := fun i => [.im (.int n), .im (Ll lines), .im (Li his), .im (Li mine), .im (Lc (Tp2 Li D.int) ws), .im (.int (2 ^ topM lines his mine)), .ow ((W.take i).map cW), .un, .un, .un, .un]
    have lW : W.length = n.toNat := by
      show (worthsM n lines his mine).length = n.toNat
      unfold worthsM
      rw [List.length_map, upI_length]
    refine sv_seq (sv_asg2T (ev_weights (ea_cons (ev_var rfl) (ea_cons (ev_var rfl) (ea_cons (ev_var rfl) ea_nil))) ?_)) (sv_seq (sv_asgO (by show (6 : Nat) < 11; decide) (en_lst ea_nil)) (sv_seq (Γ2 := gs n.toNat) (Sv.to (sv_for ((upI n).map D.int) gs (fun i => (gs i).set 7 (.im (.int (i : Int)))) (ei_range (ev_var rfl) ?_ ?_) (fun i d e => ?t1) (fun i d e => ?t2)) ?t3) (Sv.to (sv_retO rfl) ?t4)))
    case t1 =>
      obtain ⟨rfl, _⟩ := upI_int e
      exact ts_name
    case t2 =>
      obtain ⟨rfl, hi⟩ := upI_int e
      have hx : W[i]? = some (if (decide ((i : Int) ∈ his) || decide ((i : Int) ∈ mine)) = true then none else some (lowM (muchM ws i) (topM lines his mine))) := by
        show (worthsM n lines his mine)[i]? = _
        unfold worthsM
        rw [List.getElem?_map, upI_get hi]
        rfl
      refine Sv.weak (sv_seq (sv_asg (d := .int (muchM ws (i : Int))) (EvD.to (ev_cb (ea_cons (EvN.known (en_lcT (Tp2 Li D.int) D.int (ei_list (ev_var rfl)) (fun x hx => tc_pair (by decide) (by decide)) (fun x hx => (et_test (ev_op (ev_var rfl) (ev_var rfl) rd_in))) (fun x hx hp => (ev_var rfl)) ?_)) ea_nil) cd_sum) ?e1)) (sv_append (d := cW (if (decide ((i : Int) ∈ his) || decide ((i : Int) ∈ mine)) = true then none else some (lowM (muchM ws i) (topM lines his mine)))) rfl (EvD.to (ev_ifE (et_or (et_test (ev_op (ev_var rfl) (ev_var rfl) rd_in)) fun hB => (et_test (ev_op (ev_var rfl) (ev_var rfl) rd_in))) (fun hB => ev_non) (fun hB => (ev_lowest (ea_cons (ev_var rfl) (ea_cons (ev_var rfl) ea_nil))))) ?e2) ?e3)) ?e4
      case e1 => rfl
      case e2 => split <;> rfl
      case e3 =>
        rw [List.length_map, List.length_take]
        omega
      case e4 =>
        show Sub [.im (.int n), .im (Ll lines), .im (Li his), .im (Li mine), .im (Lc (Tp2 Li D.int) ws), .im (.int (2 ^ topM lines his mine)), .ow ((W.take i).map cW ++ [cW _]), .im (.int (i : Int)), .im (.int (muchM ws (i : Int))), .un, .un] (gs (i + 1))
        have e : (W.take (i + 1)).map cW = (W.take i).map cW ++ [cW (if (decide ((i : Int) ∈ his) || decide ((i : Int) ∈ mine)) = true then none else some (lowM (muchM ws i) (topM lines his mine)))] := by rw [snoc_take hx, List.map_append]; rfl
        show Sub _ [.im (.int n), .im (Ll lines), .im (Li his), .im (Li mine), .im (Lc (Tp2 Li D.int) ws), .im (.int (2 ^ topM lines his mine)), .ow ((W.take (i + 1)).map cW), .un, .un, .un, .un]
        rw [e]
        exact .same (.same (.same (.same (.same (.same (.same (.un (.un (.same (.same .nil))))))))))
      · exact Nat.le_trans (weighed_len hs) (by decide)
    case t3 => rw [upI_len]
    case t4 =>
      rw [List.take_of_length_le (by omega)]
    · exact hs
    · exact Int.le_trans (by decide) n0
    · exact Int.lt_of_le_of_lt n1 (by decide)⟩

def R_worths (ds es : List D) : Prop := ∃ n lines his mine, ds = [.int n, Ll lines, Li his, Li mine] ∧ Brd n lines ∧ Tak n his mine ∧ es = (worthsM n lines his mine).map cW
theorem ev_worths {Γ : List En} {ta : TA} {E : XK} {RE : List D → Addr → Prop} {n : Int} {lines : List (List Int)} {his mine : List Int} (h : EvA K w ta Γ [.int n, Ll lines, Li his, Li mine]) (b : Brd n lines) (t : Tak n his mine) :
    EvN K w (tCall (spXN K w R_worths RE) [] E ta) Γ ((worthsM n lines his mine).map cW) := en_callX h ⟨n, lines, his, mine, rfl, b, t, rfl⟩
theorem ok_worths {f CP CL CT : Addr} {fd : FuncData} (F : Fun K "worths" "worths" s_worths f fd) (B : Bn mg) (h_asked_board : Has P w K mg base (L2.CX P w) "asked_board" 5 ["places", "lines", "his", "mine"] (spX K w R_asked_board (RE_asked_board CP CL CT)))
    (h_worths_of : Has P w K mg base CX0 "worths_of" 3 ["places", "lines", "his", "mine"] (spN K w R_worths_of)) : FnOk P w K mg base (L2.CX P w) 6 f fd P_worths (spXN K w R_worths (RE_asked_board CP CL CT)) :=
  fn_XN F sc_worths (fun ds d ⟨_, _, _, _, e, _⟩ => by rw [e]; rfl) (fun ds d ⟨_, _, _, _, e, _⟩ => by rw [e]; rfl) fun cdv A outer s H E hr => ⟨_, (pss_cons (ps_expr (pcall h_asked_board (hr.mono (by decide)) (passes_call (takes_of rfl rfl rfl rfl) (fun _ _ _ _ z => z)) (by rfl) (pa_cons (pv 0) (pa_cons (pv 1) (pa_cons (pv 2) (pa_cons (pv 3) pa_nil)))))) (PSs.nox (pss_one (ps_ret (pcall h_worths_of (hr.mono (by decide)) pass0 (by rfl) (pa_cons (pv 0) (pa_cons (pv 1) (pa_cons (pv 2) (pa_cons (pv 3) pa_nil))))))))), by
    rintro ds d ⟨n, lines, his, mine, rfl, b, t, rfl⟩
    refine sv_seq (sv_dropX (ea_cons (ev_var rfl) (ea_cons (ev_var rfl) (ea_cons (ev_var rfl) (ea_cons (ev_var rfl) ea_nil)))) (asked_ok b t)) (sv_retN (ev_worths_of (ea_cons (ev_var rfl) (ea_cons (ev_var rfl) (ea_cons (ev_var rfl) (ea_cons (ev_var rfl) ea_nil)))) ?_))
    exact ⟨Int.le_trans (by decide) b.n1, b.n2, b.small⟩, by
    intro ds C h
    obtain ⟨x, l, hh, m, rfl, _⟩ := id h
    exact rz_seq (rz_dropX (ea_cons (ev_var rfl) (ea_cons (ev_var rfl) (ea_cons (ev_var rfl) (ea_cons (ev_var rfl) ea_nil)))) h)⟩

def R_full (ds es : List D) : Prop := ∃ n lines his mine, ds = [.int n, Ll lines, Li his, Li mine] ∧ Brd n lines ∧ Tak n his mine ∧ es = (fullM lines his).map D.int
theorem ev_full {Γ : List En} {ta : TA} {E : XK} {RE : List D → Addr → Prop} {n : Int} {lines : List (List Int)} {his mine : List Int} (h : EvA K w ta Γ [.int n, Ll lines, Li his, Li mine]) (b : Brd n lines) (t : Tak n his mine) :
    EvN K w (tCall (spXN K w R_full RE) [] E ta) Γ ((fullM lines his).map D.int) := en_callX h ⟨n, lines, his, mine, rfl, b, t, rfl⟩
theorem mem_enum {α : Type} {xs : List α} {q : Int × α} (h : q ∈ enumI xs) : q.2 ∈ xs := by
  obtain ⟨r, hr, rfl⟩ := List.mem_map.mp h
  obtain ⟨_, _, e⟩ := List.mem_zipIdx hr
  rw [show r.1 = xs[r.2 - 0] from e]
  exact List.getElem_mem _
theorem enum_len {α : Type} (xs : List α) : (enumI xs).length = xs.length := by unfold enumI; rw [List.length_map, List.length_zipIdx]
theorem ok_full {f CP CL CT : Addr} {fd : FuncData} (F : Fun K "full" "full" s_full f fd) (B : Bn mg) (h_asked_board : Has P w K mg base (L2.CX P w) "asked_board" 5 ["places", "lines", "his", "mine"] (spX K w R_asked_board (RE_asked_board CP CL CT))) :
    FnOk P w K mg base (L2.CX P w) 6 f fd P_full (spXN K w R_full (RE_asked_board CP CL CT)) :=
  fn_XN F sc_full (fun ds d ⟨_, _, _, _, e, _⟩ => by rw [e]; rfl) (fun ds d ⟨_, _, _, _, e, _⟩ => by rw [e]; rfl) fun cdv A outer s H E hr => ⟨_, (pss_cons (ps_expr (pcall h_asked_board (hr.mono (by decide)) (passes_call (takes_of rfl rfl rfl rfl) (fun _ _ _ _ z => z)) (by rfl) (pa_cons (pv 0) (pa_cons (pv 1) (pa_cons (pv 2) (pa_cons (pv 3) pa_nil)))))) (PSs.nox (pss_one (ps_ret (pe_lc (own := [("at", 4), ("line", 5)]) rfl sc_full.nd (kIEnum K (by rfl) B.enumerate (pa_cons (pv 1) pa_nil)) (blkOk_by (by kernel_rfl)) (fun _ _ _ _ _ => (kTup K (n := 2) rfl (pgs_cons (pg_name (i := 4) sc_full.nd rfl (by first | exact Or.inl rfl | exact Or.inr rfl)) (pgs_cons (pg_name (i := 5) sc_full.nd rfl (by first | exact Or.inl rfl | exact Or.inr rfl)) pgs_nil)))) (fun _ _ _ _ _ => (pts_one (pt_val (pe_callB (kAll K rfl) (by rfl) B.all bt_all (pa_cons (pe_lc (own := [("place", 6)]) rfl sc_full.nd (kIList K (pv 5)) (blkOk_by (by kernel_rfl)) (fun _ _ _ _ _ => (pg_name (i := 6) sc_full.nd rfl (by first | exact Or.inl rfl | exact Or.inr rfl))) (fun _ _ _ _ _ => pts_nil) (fun _ _ _ _ _ => (pe_cmpR (kIn K) (pv 6) (pv 2) (by rfl)))) pa_nil))))) (fun _ _ _ _ _ => (pv 4))))))), by
    rintro ds d ⟨n, lines, his, mine, rfl, b, t, rfl⟩
    refine sv_seq (sv_dropX (ea_cons (ev_var rfl) (ea_cons (ev_var rfl) (ea_cons (ev_var rfl) (ea_cons (ev_var rfl) ea_nil)))) (asked_ok b t)) (sv_retN (EvN.to (en_lcT (Tp2 D.int Li) D.int (ei_enumT (ev_var rfl)) (fun x hx => tc_pair (by decide) (by decide)) (fun x hx => (et_B (ev_cb (ea_cons (EvN.known (en_lcmT D.int D.bl (ei_list (ev_var rfl)) (fun x hx => tc_name (by decide)) (fun x hx => (ev_op (ev_var rfl) (ev_var rfl) rd_in)) ?_)) ea_nil) cd_all))) (fun x hx hp => (ev_var rfl)) ?_) ?e1))
    case e1 =>
      unfold fullM
      simp only [all_map]
    · exact Nat.le_trans (b.small.2 _ (mem_enum (by assumption))) (by decide)
    · rw [enum_len]
      exact Nat.le_trans b.small.1 (by decide), by
    intro ds C h
    obtain ⟨x, l, hh, m, rfl, _⟩ := id h
    exact rz_seq (rz_dropX (ea_cons (ev_var rfl) (ea_cons (ev_var rfl) (ea_cons (ev_var rfl) (ea_cons (ev_var rfl) ea_nil)))) h)⟩

/-! ### the danger's size -/
theorem sum_bound {b : Int} : ∀ {xs : List Int}, (∀ x ∈ xs, 0 ≤ x ∧ x ≤ b) → 0 ≤ xs.sum ∧ xs.sum ≤ b * xs.length
  | [], _ => ⟨Int.le_refl _, by simp⟩
  | x :: xs, h => by
    obtain ⟨h1, h2⟩ := sum_bound fun y hy => h y (List.mem_cons_of_mem _ hy)
    have h3 := h x List.mem_cons_self
    rw [List.sum_cons, List.length_cons]
    have e : b * ((xs.length + 1 : Nat) : Int) = b * (xs.length : Int) + b := by
      rw [Int.natCast_add, Int.mul_add]
      simp
    rw [e]
    omega
theorem pow_le_pow {a b : Nat} (h : a ≤ b) : (2 : Int) ^ a ≤ 2 ^ b := by
  obtain ⟨c, rfl⟩ : ∃ c, b = a + c := ⟨b - a, by omega⟩
  rw [Int.pow_add]
  have h1 : (1 : Int) ≤ 2 ^ c := by
    have : (0 : Int) < 2 ^ c := Int.pow_pos (by decide)
    omega
  have h2 : (0 : Int) ≤ 2 ^ a := Int.le_of_lt (Int.pow_pos (by decide))
  calc (2 : Int) ^ a = 2 ^ a * 1 := (Int.mul_one _).symm
    _ ≤ 2 ^ a * 2 ^ c := Int.mul_le_mul_of_nonneg_left h1 h2
theorem weighed_bound {lines : List (List Int)} {his mine : List Int} (hs : Small lines) : ∀ q ∈ weighedM lines his mine, 0 ≤ q.2 ∧ q.2 ≤ 2 ^ 64 := fun q hq => by
  obtain ⟨f, hf, rfl⟩ := List.mem_map.mp hq
  have := top_le (his := his) (mine := mine) hs
  exact ⟨Int.le_of_lt (Int.pow_pos (by decide)), pow_le_pow (by omega)⟩
theorem sumW_bound {lines : List (List Int)} {his mine : List Int} (hs : Small lines) : 0 ≤ sumW (weighedM lines his mine) ∧ sumW (weighedM lines his mine) ≤ 2 ^ 70 := by
  have h := sum_bound (b := 2 ^ 64) (xs := (weighedM lines his mine).map fun q => q.2) fun x hx => by
    obtain ⟨q, hq, rfl⟩ := List.mem_map.mp hx
    exact weighed_bound hs q hq
  have hl := weighed_len (his := his) (mine := mine) hs
  rw [List.length_map] at h
  refine ⟨h.1, Int.le_trans h.2 ?_⟩
  have : ((weighedM lines his mine).length : Int) ≤ 64 := by omega
  calc (2 : Int) ^ 64 * ((weighedM lines his mine).length : Int) ≤ 2 ^ 64 * 64 := Int.mul_le_mul_of_nonneg_left this (by decide)
    _ = 2 ^ 70 := by decide
theorem low_bound : ∀ (k : Nat) (a : Int), 0 ≤ a → 0 ≤ (lowM a k).1 ∧ (lowM a k).1 ≤ a
  | 0, a, h => ⟨h, Int.le_refl _⟩
  | k + 1, a, h => by
    unfold lowM
    split
    · have := low_bound k (a / 2) (by omega)
      omega
    · exact ⟨h, Int.le_refl _⟩
theorem dang_bound {lines : List (List Int)} {his mine : List Int} (hs : Small lines) : 0 ≤ (dangM lines his mine).1 ∧ (dangM lines his mine).1 ≤ 2 ^ 70 := by
  obtain ⟨h1, h2⟩ := sumW_bound (his := his) (mine := mine) hs
  obtain ⟨h3, h4⟩ := low_bound (topM lines his mine) _ h1
  exact ⟨h3, Int.le_trans h4 h2⟩
def sureM (lines : List (List Int)) (his mine : List Int) : Bool × Bool := (decide ((dangM lines his mine).1 < (dangM lines his mine).2), decide (2 * (dangM lines his mine).1 < (dangM lines his mine).2))
def R_sure (ds : List D) (d : D) : Prop := ∃ n lines his mine, ds = [.int n, Ll lines, Li his, Li mine] ∧ Brd n lines ∧ Tak n his mine ∧ d = Tp2 D.bl D.bl (sureM lines his mine)
theorem ev_sure {Γ : List En} {ta : TA} {E : XK} {RE : List D → Addr → Prop} {n : Int} {lines : List (List Int)} {his mine : List Int} (h : EvA K w ta Γ [.int n, Ll lines, Li his, Li mine]) (b : Brd n lines) (t : Tak n his mine) :
    EvD K w (tCall (spX K w R_sure RE) [] E ta) Γ (Tp2 D.bl D.bl (sureM lines his mine)) := ev_callX h ⟨n, lines, his, mine, rfl, b, t, rfl⟩
theorem ok_sure {f CP CL CT : Addr} {fd : FuncData} (F : Fun K "sure" "sure" s_sure f fd) (B : Bn mg) (h_asked_board : Has P w K mg base (L2.CX P w) "asked_board" 5 ["places", "lines", "his", "mine"] (spX K w R_asked_board (RE_asked_board CP CL CT)))
    (h_sum_of : Has P w K mg base CX0 "sum_of" 3 ["lines", "his", "mine"] (spD K w R_sum_of)) : FnOk P w K mg base (L2.CX P w) 6 f fd P_sure (spX K w R_sure (RE_asked_board CP CL CT)) :=
  fn_X F sc_sure (fun ds d ⟨_, _, _, _, e, _⟩ => by rw [e]; rfl) (fun ds d ⟨_, _, _, _, e, _⟩ => by rw [e]; rfl) fun cdv A outer s H E hr => ⟨_, (pss_cons (ps_expr (pcall h_asked_board (hr.mono (by decide)) (passes_call (takes_of rfl rfl rfl rfl) (fun _ _ _ _ z => z)) (by rfl) (pa_cons (pv 0) (pa_cons (pv 1) (pa_cons (pv 2) (pa_cons (pv 3) pa_nil)))))) (PSs.nox (pss_cons (ps_asg (pcall h_sum_of (hr.mono (by decide)) pass0 (by rfl) (pa_cons (pv 1) (pa_cons (pv 2) (pa_cons (pv 3) pa_nil)))) (kTup K (n := 2) rfl (pgs_cons (pg_name (i := 4) sc_sure.nd rfl (by first | exact Or.inl rfl | exact Or.inr rfl)) (pgs_cons (pg_name (i := 5) sc_sure.nd rfl (by first | exact Or.inl rfl | exact Or.inr rfl)) pgs_nil)))) (pss_one (ps_ret (pe_tup (pa_cons (pe_cmpR op_lt (pv 4) (pv 5) (nomark _)) (pa_cons (pe_cmpR op_lt (pe_op op_mulB pe_int (pv 4)) (pv 5) (nomark _)) pa_nil)))))))), by
    rintro ds d ⟨n, lines, his, mine, rfl, b, t, rfl⟩
    refine .inl (sv_seq (sv_dropX (ea_cons (ev_var rfl) (ea_cons (ev_var rfl) (ea_cons (ev_var rfl) (ea_cons (ev_var rfl) ea_nil)))) (asked_ok b t)) (sv_seq (sv_asg2T (ev_sum_of (ea_cons (ev_var rfl) (ea_cons (ev_var rfl) (ea_cons (ev_var rfl) ea_nil))) ?_)) (sv_ret (EvD.to (ev_tup2 D.bl D.bl (ev_op (ev_var rfl) (ev_var rfl) rd_lt) (ev_op (ev_op ev_int (ev_var rfl) (rd_mulB ?_)) (ev_var rfl) rd_lt)) ?e1))))
    case e1 => rfl
    · exact b.small
    · obtain ⟨h1, h2⟩ := dang_bound (his := his) (mine := mine) b.small
      refine ⟨2, 71, by decide, PySem.intBits_le_iff.mpr ?_, by decide⟩
      show (dangM lines his mine).1.natAbs < 2 ^ 71
      omega, by
    intro ds C h
    obtain ⟨x, l, hh, m, rfl, _⟩ := id h
    exact rz_seq (rz_dropX (ea_cons (ev_var rfl) (ea_cons (ev_var rfl) (ea_cons (ev_var rfl) (ea_cons (ev_var rfl) ea_nil)))) h)⟩

/-! ### best -/
def R_best (ds : List D) (d : D) : Prop := ∃ n lines his mine, ds = [.int n, Ll lines, Li his, Li mine] ∧ Brd n lines ∧ Tak n his mine ∧ d = cO (bestM n lines his mine)
theorem ev_best {Γ : List En} {ta : TA} {E : XK} {RE : List D → Addr → Prop} {n : Int} {lines : List (List Int)} {his mine : List Int} (h : EvA K w ta Γ [.int n, Ll lines, Li his, Li mine]) (b : Brd n lines) (t : Tak n his mine) :
    EvD K w (tCall (spX K w R_best RE) [] E ta) Γ (cO (bestM n lines his mine)) := ev_callX h ⟨n, lines, his, mine, rfl, b, t, rfl⟩
theorem ok_best {f CP CL CT : Addr} {fd : FuncData} (F : Fun K "best" "best" s_best f fd) (B : Bn mg) (h_asked_board : Has P w K mg base (L2.CX P w) "asked_board" 5 ["places", "lines", "his", "mine"] (spX K w R_asked_board (RE_asked_board CP CL CT)))
    (h_weights : Has P w K mg base CX0 "weights" 2 ["lines", "his", "mine"] (spD K w R_weights)) : FnOk P w K mg base (L2.CX P w) 6 f fd P_best (spX K w R_best (RE_asked_board CP CL CT)) :=
  fn_X F sc_best (fun ds d ⟨_, _, _, _, e, _⟩ => by rw [e]; rfl) (fun ds d ⟨_, _, _, _, e, _⟩ => by rw [e]; rfl) fun cdv A outer s H E hr => ⟨_, (pss_cons (ps_expr (pcall h_asked_board (hr.mono (by decide)) (passes_call (takes_of rfl rfl rfl rfl) (fun _ _ _ _ z => z)) (by rfl) (pa_cons (pv 0) (pa_cons (pv 1) (pa_cons (pv 2) (pa_cons (pv 3) pa_nil)))))) (PSs.nox (pss_cons (ps_set (i := 4) sc_best.nd rfl (by first | exact Or.inl rfl | exact Or.inr rfl) (pe_ix (kIx K) (pcall h_weights (hr.mono (by decide)) pass0 (by rfl) (pa_cons (pv 1) (pa_cons (pv 2) (pa_cons (pv 3) pa_nil)))) pe_int (fun _ _ => rfl))) (pss_cons (ps_set (i := 5) sc_best.nd rfl (by first | exact Or.inl rfl | exact Or.inr rfl) pe_non) (pss_cons (ps_set (i := 6) sc_best.nd rfl (by first | exact Or.inl rfl | exact Or.inr rfl) (pe_un un_neg pe_int)) (pss_cons (ps_for PassesOwn.never rfl (pi_range1 (by rfl) B.range (pa_cons (pv 0) pa_nil)) (pg_name (i := 7) sc_best.nd rfl (by first | exact Or.inl rfl | exact Or.inr rfl)) (pss_cons (ps_set (i := 8) sc_best.nd rfl (by first | exact Or.inl rfl | exact Or.inr rfl) (pe_callB (kSum K rfl) (by rfl) B.sum bt_sum (pa_cons (pe_lc (own := [("free", 9), ("weight", 10)]) rfl sc_best.nd (kIList K (pv 4)) (blkOk_by (by kernel_rfl)) (fun _ _ _ _ _ => (kTup K (n := 2) rfl (pgs_cons (pg_name (i := 9) sc_best.nd rfl (by first | exact Or.inl rfl | exact Or.inr rfl)) (pgs_cons (pg_name (i := 10) sc_best.nd rfl (by first | exact Or.inl rfl | exact Or.inr rfl)) pgs_nil)))) (fun _ _ _ _ _ => (pts_one (pt_cmpR (kIn K) (pv 7) (pv 9) (by rfl)))) (fun _ _ _ _ _ => (pv 10))) pa_nil))) (pss_one (ps_if (PW.pt (pw_and (pt_cmpR op_gt (pv 8) (pv 6) (nomark _)) (pw_and (pt_cmpR (kNin K) (pv 7) (pv 2) (by rfl)) (pw_and1 (pt_cmpR (kNin K) (pv 7) (pv 3) (by rfl)))))) (pss_cons (ps_set (i := 5) sc_best.nd rfl (by first | exact Or.inl rfl | exact Or.inr rfl) (pv 7)) (pss_one (ps_set (i := 6) sc_best.nd rfl (by first | exact Or.inl rfl | exact Or.inr rfl) (pv 8)))) pss_nil)))) (pss_one (ps_ret (pv 5))))))))), by
    rintro ds d ⟨n, lines, his, mine, rfl, b, t, rfl⟩
    have n0 : 0 ≤ n := Int.le_trans (by decide) b.n1
    have n2 := b.n2
    let ws := weighedM lines his mine
    let st : Nat → Option Int × Int := fun i => ((upI n).take i).foldl (bestStep ws his mine) (none, -1)
    let gs : Nat → List En := fun i => [.im (.int n), .im (Ll lines), .im (Li his), .im (Li mine), .im (Lc (Tp2 Li D.int) ws), .im (cO (st i).1), .im (.int (st i).2), .un, .un, .un, .un]
    refine .inl (sv_seq (sv_dropX (ea_cons (ev_var rfl) (ea_cons (ev_var rfl) (ea_cons (ev_var rfl) (ea_cons (ev_var rfl) ea_nil)))) (asked_ok b t)) (sv_seq (sv_asg (d := Lc (Tp2 Li D.int) ws) (ev_op (ev_weights (ea_cons (ev_var rfl) (ea_cons (ev_var rfl) (ea_cons (ev_var rfl) ea_nil))) ?_) ev_int (rd_ixT ?_))) (sv_seq (sv_asg ev_non) (sv_seq (sv_asg (ev_neg ev_int)) (sv_seq (Γ2 := gs n.toNat) (Sv.to (sv_for ((upI n).map D.int) gs (fun i => (gs i).set 7 (.im (.int (i : Int)))) (ei_range (ev_var rfl) ?_ ?_) (fun i d e => ?t1) (fun i d e => ?t2)) ?t3) (sv_ret (EvD.to (ev_var rfl) ?t4)))))))
    case t1 =>
      obtain ⟨rfl, _⟩ := upI_int e
      exact ts_name
    case t2 =>
      obtain ⟨rfl, hi⟩ := upI_int e
      have hx : st (i + 1) = bestStep ws his mine (st i) (i : Int) := by
        show ((upI n).take (i + 1)).foldl (bestStep ws his mine) (none, -1) = _
        rw [snoc_take (upI_get hi), List.foldl_append]
        rfl
      refine sv_seq (sv_asg (d := .int (muchM ws (i : Int))) (EvD.to (ev_cb (ea_cons (EvN.known (en_lcT (Tp2 Li D.int) D.int (ei_list (ev_var rfl)) (fun x hx => tc_pair (by decide) (by decide)) (fun x hx => (et_test (ev_op (ev_var rfl) (ev_var rfl) rd_in))) (fun x hx hp => (ev_var rfl)) ?_)) ea_nil) cd_sum) ?e1)) (sv_if (et_and (et_test (ev_op (ev_var rfl) (ev_var rfl) rd_gt)) fun hB => (et_and (et_test (ev_op (ev_var rfl) (ev_var rfl) rd_nin)) fun hB => (et_test (ev_op (ev_var rfl) (ev_var rfl) rd_nin)))) (fun hb => Sv.weak (sv_seq (sv_asg (ev_var rfl)) (sv_asg (ev_var rfl))) ?e2) fun hb => Sv.weak sv_next ?e3)
      case e1 => rfl
      case e2 =>
        have e : st (i + 1) = (some (i : Int), muchM ws (i : Int)) := by
          rw [hx]
          unfold bestStep
          rw [if_pos hb]
        show Sub _ [.im (.int n), .im (Ll lines), .im (Li his), .im (Li mine), .im (Lc (Tp2 Li D.int) ws), .im (cO (st (i + 1)).1), .im (.int (st (i + 1)).2), .un, .un, .un, .un]
        rw [e]
        exact .same (.same (.same (.same (.same (.same (.same (.un (.un (.same (.same .nil))))))))))
      case e3 =>
        have e : st (i + 1) = st i := by
          rw [hx]
          unfold bestStep
          rw [if_neg (by rw [hb]; exact Bool.false_ne_true)]
        show Sub _ [.im (.int n), .im (Ll lines), .im (Li his), .im (Li mine), .im (Lc (Tp2 Li D.int) ws), .im (cO (st (i + 1)).1), .im (.int (st (i + 1)).2), .un, .un, .un, .un]
        rw [e]
        exact .same (.same (.same (.same (.same (.same (.same (.un (.un (.same (.same .nil))))))))))
      · exact Nat.le_trans (weighed_len b.small) (by decide)
    case t3 => rw [upI_len]
    case t4 =>
      show cO (st n.toNat).1 = cO (bestM n lines his mine)
      have e : st n.toNat = (upI n).foldl (bestStep ws his mine) (none, -1) := by
        show ((upI n).take n.toNat).foldl (bestStep ws his mine) (none, -1) = _
        rw [List.take_of_length_le (by rw [upI_length]; exact Nat.le_refl _)]
      rw [e]
      rfl
    all_goals first | exact b.small | rfl | omega, by
    intro ds C h
    obtain ⟨x, l, hh, m, rfl, _⟩ := id h
    exact rz_seq (rz_dropX (ea_cons (ev_var rfl) (ea_cons (ev_var rfl) (ea_cons (ev_var rfl) (ea_cons (ev_var rfl) ea_nil)))) h)⟩
end
end Lw
set_option Elab.async false
set_option linter.all false
set_option maxRecDepth 100000
set_option maxHeartbeats 8000000
namespace Lw
open PySem L2 PyProof.Rows Lh
abbrev s_told : Stmt := topS 32
abbrev N_told : List Str := ["places", "lines"]
abbrev P_told : List Str := ["places", "lines"]
theorem sc_told : FnScope N_told P_told (defScope s_told) := ⟨rfl, rfl, rfl, by decide +kernel, rfl, by decide +kernel, by decide +kernel⟩
abbrev s_reply : Stmt := topS 33
abbrev N_reply : List Str := ["places", "lines", "his", "mine", "found", "free", "place", "one", "other"]
abbrev P_reply : List Str := ["places", "lines", "his", "mine"]
theorem sc_reply : FnScope N_reply P_reply (defScope s_reply) := ⟨rfl, rfl, rfl, by decide +kernel, rfl, by decide +kernel, by decide +kernel⟩
abbrev s__law_with_board : Stmt := topS 35
abbrev N__law_with_board : List Str := ["_law_door", "_law_places", "_law_lines", "_law_his", "_law_mine"]
abbrev P__law_with_board : List Str := ["_law_door", "_law_places", "_law_lines", "_law_his", "_law_mine"]
theorem sc__law_with_board : FnScope N__law_with_board P__law_with_board (defScope s__law_with_board) := ⟨rfl, rfl, rfl, by decide +kernel, rfl, by decide +kernel, by decide +kernel⟩

/-! ### the doors that only refuse here -/
section
variable {P : Program} {w : World} {K : PySem.W.Frag} {mg : Str → Option Value} {base : Heap}
def RN (ds : List D) (d : D) : Prop := False
theorem ok_told {f CP CL : Addr} {fd : FuncData} (F : Fun K "told" "told" s_told f fd) (B : Bn mg) (h_asked_lines : Has P w K mg base (L2.CX P w) "asked_lines" 4 P_asked_lines (spX K w R_asked_lines (RE_asked_lines CP CL))) : FnOk P w K mg base (L2.CX P w) 6 f fd P_told (spX K w RN (RE_asked_lines CP CL)) :=
  fn_X F sc_told (fun ds d z => z.elim) (fun ds C ⟨_, _, e, _⟩ => by rw [e]; rfl) fun cdv A outer s H E hr => ⟨_, (pss_cons (ps_expr (pcall h_asked_lines (hr.mono (by decide)) (passes_call (takes_of rfl rfl rfl rfl) (fun _ _ _ _ z => z)) (by rfl) (pa_cons (pv 0) (pa_cons (pv 1) pa_nil)))) Lh.pss_never), (fun ds d z => z.elim), by
    intro ds C h
    obtain ⟨x, l, rfl, _⟩ := id h
    exact rz_seq (rz_dropX (ea_cons (ev_var rfl) (ea_cons (ev_var rfl) ea_nil)) h)⟩

theorem ok_reply {f CP CL CT : Addr} {fd : FuncData} (F : Fun K "reply" "reply" s_reply f fd) (B : Bn mg) (h_asked_board : Has P w K mg base (L2.CX P w) "asked_board" 5 P_asked_board (spX K w R_asked_board (RE_asked_board CP CL CT))) : FnOk P w K mg base (L2.CX P w) 6 f fd P_reply (spX K w RN (RE_asked_board CP CL CT)) :=
  fn_X F sc_reply (fun ds d z => z.elim) (fun ds C ⟨_, _, _, _, e, _⟩ => by rw [e]; rfl) fun cdv A outer s H E hr => ⟨_, (pss_cons (ps_expr (pcall h_asked_board (hr.mono (by decide)) (passes_call (takes_of rfl rfl rfl rfl) (fun _ _ _ _ z => z)) (by rfl) (pa_cons (pv 0) (pa_cons (pv 1) (pa_cons (pv 2) (pa_cons (pv 3) pa_nil)))))) Lh.pss_never), (fun ds d z => z.elim), by
    intro ds C h
    obtain ⟨x, l, hh, m, rfl, _⟩ := id h
    exact rz_seq (rz_dropX (ea_cons (ev_var rfl) (ea_cons (ev_var rfl) (ea_cons (ev_var rfl) (ea_cons (ev_var rfl) ea_nil)))) h)⟩

def RE_wb (CP CL CT : Addr) (ds : List D) (C : Addr) : Prop := ∃ (door : Int) (x l h m : D), ds = [.int door, x, l, h, m] ∧ RE_asked_board CP CL CT [x, l, h, m] C
theorem ok_wb {f CP CL CT : Addr} {fd : FuncData} (F : Fun K "_law_with_board" "_law_with_board" s__law_with_board f fd) (B : Bn mg)
    (h_danger : Has P w K mg base (L2.CX P w) "danger" 6 P_danger (spX K w R_danger (RE_asked_board CP CL CT))) (h_worths : Has P w K mg base (L2.CX P w) "worths" 6 P_worths (spXN K w R_worths (RE_asked_board CP CL CT)))
    (h_sure : Has P w K mg base (L2.CX P w) "sure" 6 P_sure (spX K w R_sure (RE_asked_board CP CL CT))) (h_best : Has P w K mg base (L2.CX P w) "best" 6 P_best (spX K w R_best (RE_asked_board CP CL CT)))
    (h_full : Has P w K mg base (L2.CX P w) "full" 6 P_full (spXN K w R_full (RE_asked_board CP CL CT))) (h_reply : Has P w K mg base (L2.CX P w) "reply" 6 P_reply (spX K w RN (RE_asked_board CP CL CT))) :
    FnOk P w K mg base (L2.CX P w) 7 f fd P__law_with_board (spX K w RN (RE_wb CP CL CT)) :=
  fn_X F sc__law_with_board (fun ds d z => z.elim) (fun ds C ⟨_, _, _, _, _, e, _⟩ => by rw [e]; rfl) fun cdv A outer s H E hr => ⟨_, (pss_cons (ps_if (pt_cmpR op_lt (pv 0) pe_int (nomark _)) (pss_one (ps_ret (pe_ifExp (pt_cmpR (kEq K hr.units) (pv 0) pe_int (nomark _)) (pcall h_danger (hr.mono (by decide)) (passes_call (takes_of rfl rfl rfl rfl) (fun _ _ _ _ z => z)) (by rfl) (pa_cons (pv 1) (pa_cons (pv 2) (pa_cons (pv 3) (pa_cons (pv 4) pa_nil))))) (pcall h_worths (hr.mono (by decide)) (passes_call (takes_of rfl rfl rfl rfl) (fun _ _ _ _ z => z)) (by rfl) (pa_cons (pv 1) (pa_cons (pv 2) (pa_cons (pv 3) (pa_cons (pv 4) pa_nil)))))))) pss_nil) (pss_cons (ps_if (pt_cmpR op_lt (pv 0) pe_int (nomark _)) (pss_one (ps_ret (pe_ifExp (pt_cmpR (kEq K hr.units) (pv 0) pe_int (nomark _)) (pcall h_sure (hr.mono (by decide)) (passes_call (takes_of rfl rfl rfl rfl) (fun _ _ _ _ z => z)) (by rfl) (pa_cons (pv 1) (pa_cons (pv 2) (pa_cons (pv 3) (pa_cons (pv 4) pa_nil))))) (pcall h_best (hr.mono (by decide)) (passes_call (takes_of rfl rfl rfl rfl) (fun _ _ _ _ z => z)) (by rfl) (pa_cons (pv 1) (pa_cons (pv 2) (pa_cons (pv 3) (pa_cons (pv 4) pa_nil)))))))) pss_nil) (pss_one (ps_ret (pe_ifExp (pt_cmpR (kEq K hr.units) (pv 0) pe_int (nomark _)) (pcall h_full (hr.mono (by decide)) (passes_call (takes_of rfl rfl rfl rfl) (fun _ _ _ _ z => z)) (by rfl) (pa_cons (pv 1) (pa_cons (pv 2) (pa_cons (pv 3) (pa_cons (pv 4) pa_nil))))) (pcall h_reply (hr.mono (by decide)) (passes_call (takes_of rfl rfl rfl rfl) (fun _ _ _ _ z => z)) (by rfl) (pa_cons (pv 1) (pa_cons (pv 2) (pa_cons (pv 3) (pa_cons (pv 4) pa_nil)))))))))), (fun ds d z => z.elim), by
    rintro ds C ⟨door, x, l, hh, m, rfl, h⟩
    by_cases d2 : door < 2
    · exact rz_seq (rz_if (b := decide (door < 2)) (et_test (ev_op (ev_var rfl) ev_int rd_lt)) (fun _ => rz_ret (rx_if (b := decide (door = 0)) (et_test (ev_op (ev_var rfl) ev_int rd_eqI)) (fun _ => rx_call (ea_cons (ev_var rfl) (ea_cons (ev_var rfl) (ea_cons (ev_var rfl) (ea_cons (ev_var rfl) ea_nil)))) h) (fun _ => rx_callN (ea_cons (ev_var rfl) (ea_cons (ev_var rfl) (ea_cons (ev_var rfl) (ea_cons (ev_var rfl) ea_nil)))) h))) fun hb => absurd d2 (of_decide_eq_false hb))
    · refine rz_seq2 (sv_no (EvT.to (et_test (ev_op (ev_var rfl) ev_int rd_lt)) (decide_eq_false d2)) sv_next) ?_
      by_cases d4 : door < 4
      · exact rz_seq (rz_if (b := decide (door < 4)) (et_test (ev_op (ev_var rfl) ev_int rd_lt)) (fun _ => rz_ret (rx_if (b := decide (door = 2)) (et_test (ev_op (ev_var rfl) ev_int rd_eqI)) (fun _ => rx_call (ea_cons (ev_var rfl) (ea_cons (ev_var rfl) (ea_cons (ev_var rfl) (ea_cons (ev_var rfl) ea_nil)))) h) (fun _ => rx_call (ea_cons (ev_var rfl) (ea_cons (ev_var rfl) (ea_cons (ev_var rfl) (ea_cons (ev_var rfl) ea_nil)))) h))) fun hb => absurd d4 (of_decide_eq_false hb))
      · refine rz_seq2 (sv_no (EvT.to (et_test (ev_op (ev_var rfl) ev_int rd_lt)) (decide_eq_false d4)) sv_next) (rz_ret (rx_if (b := decide (door = 4)) (et_test (ev_op (ev_var rfl) ev_int rd_eqI)) (fun _ => rx_callN (ea_cons (ev_var rfl) (ea_cons (ev_var rfl) (ea_cons (ev_var rfl) (ea_cons (ev_var rfl) ea_nil)))) h) (fun _ => rx_call (ea_cons (ev_var rfl) (ea_cons (ev_var rfl) (ea_cons (ev_var rfl) (ea_cons (ev_var rfl) ea_nil)))) h)))⟩
end
end Lw
set_option Elab.async false
set_option linter.all false
set_option maxRecDepth 100000
set_option maxHeartbeats 8000000
namespace Lw
open PySem L2 PyProof.Rows Lh
abbrev s__law_bad_lines : Stmt := topS 36
abbrev N__law_bad_lines : List Str := ["_law_which", "_law_more", "_law_bad", "_law_lines", "_law_at", "_law_strange"]
abbrev P__law_bad_lines : List Str := ["_law_which", "_law_more"]
theorem sc__law_bad_lines : FnScope N__law_bad_lines P__law_bad_lines (defScope s__law_bad_lines) := ⟨rfl, rfl, rfl, by decide +kernel, rfl, by decide +kernel, by decide +kernel⟩
abbrev s__law_told : Stmt := topS 37
abbrev N__law_told : List Str := ["_law_kind", "_law_which", "_law_more", "_law_bad", "_law_his", "_law_mine", "error", "_law_found"]
abbrev P__law_told : List Str := ["_law_kind", "_law_which", "_law_more"]
theorem sc__law_told : FnScope N__law_told P__law_told (defScope s__law_told) := ⟨rfl, rfl, rfl, by decide +kernel, rfl, by decide +kernel, by decide +kernel⟩
abbrev s_law : Stmt := topS 38
abbrev N_law : List Str := ["_law_script", "_law_cell", "_law_kind", "_law_due", "_law_at"]
abbrev P_law : List Str := ["_law_script"]
theorem sc_law : FnScope N_law P_law (defScope s_law) := ⟨rfl, rfl, rfl, by decide +kernel, rfl, by decide +kernel, by decide +kernel⟩

theorem fmod_range (a : Int) {b : Int} (h : 0 < b) : 0 ≤ a.fmod b ∧ a.fmod b < b := by
  rw [Int.fmod_eq_emod_of_nonneg _ (Int.le_of_lt h)]
  exact ⟨Int.emod_nonneg _ (Int.ne_of_gt h), Int.emod_lt_of_pos _ h⟩
abbrev bits (z : Int) : Nat := Builtin.Int.intBits z
def Cell (c : Int) : Prop := bits c ≤ 1048577
theorem atI_getD {ds : List D} {k : Int} (h0 : 0 ≤ k) (h1 : k < ds.length) : atI ds k = some (ds.getD k.toNat .non) := by
  have hk : k.toNat < ds.length := by omega
  have e : k = ((k.toNat : Nat) : Int) := by omega
  conv => lhs; rw [e]
  refine atI_nat ?_
  rw [List.getD_eq_getElem?_getD, List.getElem?_eq_getElem hk]
  rfl
theorem getD_in {ds : List D} {k : Int} (h0 : 0 ≤ k) (h1 : k < ds.length) : ds.getD k.toNat .non ∈ ds := by
  have hk : k.toNat < ds.length := by omega
  rw [List.getD_eq_getElem?_getD, List.getElem?_eq_getElem hk]
  exact List.getElem_mem hk

/-! ### lines that are refused -/
def bad14 : List D := [.non, .tup [], .str "01", .int 5, .dct, .lst [.non], Li [0], .lst [Tp2 D.int D.int (0, 1)], .lst [.lst []], Ll [[1, 0]], Ll [[1, 1]], Ll [[0, 4]], Ll [[-1, 2]], .lst [Lc D.str ["0"]]]
def bad18 : List D := bad14 ++ [.lst [.lst [.int 0, .bl true]], .lst [.lst [.non]], .lst (((List.replicate (61 : Int).toNat [[(0 : Int), 1]]).flatten).map Li), .lst [Li [0, 1], .str "1"]]
def odd8 (m : Int) : List D := [.non, Li [3, 0], Li [2, 2], Li [0, 4 + m], .lst [.bl true, .int 2], .lst [], Tp2 D.int D.int (0, 1), Li [-1 - m]]
def bad18_ok : Bool := bad18.all fun x => tame x && !lnOk 4 x
theorem bad18_all : ∀ x ∈ bad18, tame x = true ∧ lnOk 4 x = false := fun x hx => by
  have h : bad18_ok = true := by decide +kernel
  have := List.all_eq_true.mp h x hx
  rw [Bool.and_eq_true] at this
  exact ⟨this.1, by simpa using this.2⟩
theorem odd8_all {m : Int} (hm : 0 ≤ m) : ∀ x ∈ odd8 m, tame x = true ∧ isLn 4 x = false := fun x hx => by
  have e1 : decide (4 + m < 4) = false := decide_eq_false (by omega)
  have e2 : decide (0 ≤ -1 - m) = false := decide_eq_false (by omega)
  rcases List.mem_cons.mp hx with rfl | hx
  · exact ⟨rfl, rfl⟩
  rcases List.mem_cons.mp hx with rfl | hx
  · exact ⟨rfl, by decide +kernel⟩
  rcases List.mem_cons.mp hx with rfl | hx
  · exact ⟨rfl, by decide +kernel⟩
  rcases List.mem_cons.mp hx with rfl | hx
  · refine ⟨rfl, ?_⟩
    show ((true && ((decide (0 ≤ 4 + m) && decide (4 + m < 4)) && true)) && _) = false
    rw [e1, Bool.and_false]
    rfl
  rcases List.mem_cons.mp hx with rfl | hx
  · exact ⟨rfl, rfl⟩
  rcases List.mem_cons.mp hx with rfl | hx
  · exact ⟨rfl, by decide +kernel⟩
  rcases List.mem_cons.mp hx with rfl | hx
  · exact ⟨rfl, rfl⟩
  · rw [List.mem_singleton.mp hx]
    refine ⟨rfl, ?_⟩
    show (((decide (0 ≤ -1 - m) && decide (-1 - m < 4)) && true) && _) = false
    rw [e2]
    rfl
def base3 (m : Int) : List (List Int) := (upI (1 + m.fmod 50)).map fun a => [a.fmod 3, 3]
def atL (which m : Int) : Int := (which.fdiv 26).fmod (1 + m.fmod 50)
def badLM (which m : Int) : D := if decide (which.fmod 26 < 18) = true then bad18.getD (which.fmod 26).toNat .non else .lst (((base3 m).map Li).set (atL which m).toNat ((odd8 m).getD (which.fmod 26 - 18).toNat .non))
theorem base3_len (m : Int) : ((base3 m).length : Int) = 1 + m.fmod 50 := by
  have := fmod_range m (b := 50) (by decide)
  unfold base3
  rw [List.length_map, upI_length]
  omega
theorem badLM_ok {which m : Int} (hm : 0 ≤ m) : tame (badLM which m) = true ∧ lnOk 4 (badLM which m) = false := by
  have hw := fmod_range which (b := 26) (by decide)
  unfold badLM
  split
  · rename_i h
    have h := of_decide_eq_true h
    exact bad18_all _ (getD_in hw.1 (by show which.fmod 26 < ((18 : Nat) : Int); omega))
  · rename_i h
    have h : ¬ which.fmod 26 < 18 := fun z => h (decide_eq_true z)
    obtain ⟨h1, h2⟩ := odd8_all hm _ (getD_in (ds := odd8 m) (k := which.fmod 26 - 18) (by omega) (by show which.fmod 26 - 18 < ((8 : Nat) : Int); omega))
    generalize (odd8 m).getD (which.fmod 26 - 18).toNat .non = x at h1 h2
    have hl := base3_len m
    have hr := fmod_range m (b := 50) (by decide)
    have ha := fmod_range (which.fdiv 26) (b := 1 + m.fmod 50) (by omega)
    have hi : (atL which m).toNat < ((base3 m).map Li).length := by
      rw [List.length_map]
      unfold atL
      omega
    refine ⟨tame_of_lst (by rw [List.length_set, List.length_map]; omega) fun y hy => ?_, ?_⟩
    · rcases List.mem_or_eq_of_mem_set hy with h | h
      · obtain ⟨l, hl, rfl⟩ := List.mem_map.mp h
        obtain ⟨a, _, rfl⟩ := List.mem_map.mp hl
        rfl
      · rw [h]
        exact h1
    · show (decide ((((base3 m).map Li).set (atL which m).toNat x).length ≤ 60) && (((base3 m).map Li).set (atL which m).toNat x).all (isLn 4)) = false
      cases q : (((base3 m).map Li).set (atL which m).toNat x).all (isLn 4) with
      | false => exact Bool.and_false _
      | true =>
        have := List.all_eq_true.mp q x (List.mem_set hi x)
        rw [h2] at this
        cases this
section
variable {P : Program} {w : World} {K : PySem.W.Frag} {mg : Str → Option Value} {base : Heap}
def Rg (which m : Int) : Prop := 0 ≤ which ∧ which < 100000 ∧ 0 ≤ m ∧ m < 1000
def R_bad_lines (ds : List D) (d : D) : Prop := ∃ which m, ds = [.int which, .int m] ∧ Rg which m ∧ d = badLM which m
theorem ev_bad_lines {Γ : List En} {ta : TA} {E : XK} {which m : Int} (h : EvA K w ta Γ [.int which, .int m]) (hc : Rg which m) : EvD K w (tCall (spD K w R_bad_lines) [] E ta) Γ (badLM which m) := ev_call h ⟨which, m, rfl, hc, rfl⟩
theorem ok_bad_lines {f : Addr} {fd : FuncData} (F : Fun K "_law_bad_lines" "_law_bad_lines" s__law_bad_lines f fd) (B : Bn mg) : FnOk P w K mg base CX0 1 f fd P__law_bad_lines (spD K w R_bad_lines) :=
  fn_D F sc__law_bad_lines (fun ds d ⟨_, _, e, _, _⟩ => by rw [e]; rfl) fun cdv A outer s H E hr => ⟨_, (pss_cons (ps_set (i := 2) sc__law_bad_lines.nd rfl (by first | exact Or.inl rfl | exact Or.inr rfl) (pe_lst (pa_cons pe_non (pa_cons (pe_tup pa_nil) (pa_cons pe_str (pa_cons pe_int (pa_cons pe_dnewK (pa_cons (pe_lst (pa_cons pe_non pa_nil)) (pa_cons (pe_lst (pa_cons pe_int pa_nil)) (pa_cons (pe_lst (pa_cons (pe_tup (pa_cons pe_int (pa_cons pe_int pa_nil))) pa_nil)) (pa_cons (pe_lst (pa_cons (pe_lst pa_nil) pa_nil)) (pa_cons (pe_lst (pa_cons (pe_lst (pa_cons pe_int (pa_cons pe_int pa_nil))) pa_nil)) (pa_cons (pe_lst (pa_cons (pe_lst (pa_cons pe_int (pa_cons pe_int pa_nil))) pa_nil)) (pa_cons (pe_lst (pa_cons (pe_lst (pa_cons pe_int (pa_cons pe_int pa_nil))) pa_nil)) (pa_cons (pe_lst (pa_cons (pe_lst (pa_cons (pe_un un_neg pe_int) (pa_cons pe_int pa_nil))) pa_nil)) (pa_cons (pe_lst (pa_cons (pe_lst (pa_cons pe_str pa_nil)) pa_nil)) pa_nil)))))))))))))))) (pss_cons (ps_set (i := 2) sc__law_bad_lines.nd rfl (by first | exact Or.inl rfl | exact Or.inr rfl) (pe_op op_cat (pv 2) (pe_lst (pa_cons (pe_lst (pa_cons (pe_lst (pa_cons pe_int (pa_cons pe_bl pa_nil))) pa_nil)) (pa_cons (pe_lst (pa_cons (pe_lst (pa_cons pe_non pa_nil)) pa_nil)) (pa_cons (pe_op op_rep (pe_lst (pa_cons (pe_lst (pa_cons pe_int (pa_cons pe_int pa_nil))) pa_nil)) pe_int) (pa_cons (pe_lst (pa_cons (pe_lst (pa_cons pe_int (pa_cons pe_int pa_nil))) (pa_cons pe_str pa_nil))) pa_nil))))))) (pss_cons (ps_if (pt_cmpR op_lt (pe_op op_modN (pv 0) pe_int) pe_int (nomark _)) (pss_one (ps_ret (pe_ix (kIx K) (pv 2) (pe_op op_modN (pv 0) pe_int) (fun _ _ => rfl)))) pss_nil) (pss_cons (ps_setLc (i := 3) (own := [("_law_at", 4)]) rfl sc__law_bad_lines.nd rfl rfl (sw_true rfl rfl rfl (by decide +kernel)) (pi_range1 (by rfl) B.range (pa_cons (pe_op op_add pe_int (pe_op op_modN (pv 1) pe_int)) pa_nil)) (blkOk_by (by kernel_rfl)) (fun _ _ _ _ _ => (pg_name (i := 4) sc__law_bad_lines.nd rfl (by first | exact Or.inl rfl | exact Or.inr rfl))) (fun _ _ _ _ _ => pts_nil) (fun _ _ _ _ _ => (pe_lst (pa_cons (pe_op op_modN (pv 4) pe_int) (pa_cons pe_int pa_nil))))) (pss_cons (ps_set (i := 5) sc__law_bad_lines.nd rfl (by first | exact Or.inl rfl | exact Or.inr rfl) (pe_ix (kIx K) (pe_lst (pa_cons pe_non (pa_cons (pe_lst (pa_cons pe_int (pa_cons pe_int pa_nil))) (pa_cons (pe_lst (pa_cons pe_int (pa_cons pe_int pa_nil))) (pa_cons (pe_lst (pa_cons pe_int (pa_cons (pe_op op_add pe_int (pv 1)) pa_nil))) (pa_cons (pe_lst (pa_cons pe_bl (pa_cons pe_int pa_nil))) (pa_cons (pe_lst pa_nil) (pa_cons (pe_tup (pa_cons pe_int (pa_cons pe_int pa_nil))) (pa_cons (pe_lst (pa_cons (pe_op op_sub (pe_un un_neg pe_int) (pv 1)) pa_nil)) pa_nil))))))))) (pe_op op_sub (pe_op op_modN (pv 0) pe_int) pe_int) (fun _ _ => rfl))) (pss_cons (ps_asg (pv 5) (pg_sub (pv 3) (pe_op op_modN (pe_op op_fdivN (pv 0) pe_int) (pe_callB (kLen K w) (by rfl) B.len PySem.boot_len (pa_cons (pv 3) pa_nil))) set_list)) (pss_one (ps_ret (pv 3))))))))), fun ds d hR => by
    obtain ⟨which, m, rfl, hg, rfl⟩ := hR
    have hw := fmod_range which (b := 26) (by decide)
    have hr := fmod_range m (b := 50) (by decide)
    have hl := base3_len m
    refine sv_seq (sv_asg (d := .lst bad14) (EvD.to (EvN.known (en_lst (ea_cons ev_non (ea_cons (ev_tup ea_nil) (ea_cons ev_str (ea_cons ev_int (ea_cons ev_dct (ea_cons (EvN.known (en_lst (ea_cons ev_non ea_nil))) (ea_cons (EvN.known (en_lst1 D.int ev_int)) (ea_cons (EvN.known (en_lst1 (Tp2 D.int D.int) (ev_tup2 D.int D.int ev_int ev_int))) (ea_cons (EvN.known (en_lst (ea_cons (EvN.known (en_lst ea_nil)) ea_nil))) (ea_cons (EvN.known (en_lst1 Li (EvN.known (en_lst2 D.int ev_int ev_int)))) (ea_cons (EvN.known (en_lst1 Li (EvN.known (en_lst2 D.int ev_int ev_int)))) (ea_cons (EvN.known (en_lst1 Li (EvN.known (en_lst2 D.int ev_int ev_int)))) (ea_cons (EvN.known (en_lst1 Li (EvN.known (en_lst2 D.int (ev_neg ev_int) ev_int)))) (ea_cons (EvN.known (en_lst1 (Lc D.str) (EvN.known (en_lst1 D.str ev_str)))) ea_nil)))))))))))))))) ?v1)) (sv_seq (sv_asg (d := .lst bad18) (EvD.to (EvN.known (en_op (ev_var rfl) (EvN.known (en_lst (ea_cons (EvN.known (en_lst (ea_cons (EvN.known (en_lst (ea_cons ev_int (ea_cons ev_bl ea_nil)))) ea_nil))) (ea_cons (EvN.known (en_lst (ea_cons (EvN.known (en_lst (ea_cons ev_non ea_nil))) ea_nil))) (ea_cons (EvN.known (en_op (EvN.known (en_lst1 Li (EvN.known (en_lst2 D.int ev_int ev_int)))) ev_int (rn_repT ?_ ?_ ?_))) (ea_cons (EvN.known (en_lst (ea_cons (EvN.known (en_lst2 D.int ev_int ev_int)) (ea_cons ev_str ea_nil)))) ea_nil)))))) (rn_cat ?_))) ?v2)) ?rest)
    case v1 => rfl
    case v2 => rfl
    case rest =>
      by_cases h18 : which.fmod 26 < 18
      · refine sv_seqR (sv_yes (EvT.to (et_test (ev_op (ev_op (ev_var rfl) ev_int (rd_mod ?_)) ev_int rd_lt)) (decide_eq_true h18)) (sv_ret (EvD.to (ev_op (ev_var rfl) (ev_op (ev_var rfl) ev_int (rd_mod ?_)) (rd_ixL (d := bad18.getD (which.fmod 26).toNat .non) ?_)) ?k0)))
        case k0 =>
          unfold badLM
          rw [if_pos (decide_eq_true h18)]
        all_goals first
          | exact atI_getD hw.1 (by show which.fmod 26 < ((18 : Nat) : Int); omega)
          | decide
      · refine sv_seq (sv_no (EvT.to (et_test (ev_op (ev_op (ev_var rfl) ev_int (rd_mod ?_)) ev_int rd_lt)) (decide_eq_false h18)) sv_next) (sv_seq (sv_asgO (ds := (base3 m).map Li) (by show (3 : Nat) < 6; decide) (EvN.to (en_lcmT D.int Li (ei_range (ev_op ev_int (ev_op (ev_var rfl) ev_int (rd_mod ?_)) rd_add) ?_ ?_) (fun x hx => tc_name (by decide)) (fun x hx => (EvN.known (en_lst2 D.int (ev_op (ev_var rfl) ev_int (rd_mod ?_)) ev_int))) ?_) ?k1)) (sv_seq (sv_asg (d := (odd8 m).getD (which.fmod 26 - 18).toNat .non) (ev_op (EvN.known (en_lst (ea_cons ev_non (ea_cons (EvN.known (en_lst2 D.int ev_int ev_int)) (ea_cons (EvN.known (en_lst2 D.int ev_int ev_int)) (ea_cons (EvN.known (en_lst2 D.int ev_int (ev_op ev_int (ev_var rfl) rd_add))) (ea_cons (EvN.known (en_lst (ea_cons ev_bl (ea_cons ev_int ea_nil)))) (ea_cons (EvN.known (en_lst ea_nil)) (ea_cons (ev_tup2 D.int D.int ev_int ev_int) (ea_cons (EvN.known (en_lst1 D.int (ev_op (ev_neg ev_int) (ev_var rfl) rd_sub))) ea_nil)))))))))) (ev_op (ev_op (ev_var rfl) ev_int (rd_mod ?_)) ev_int rd_sub) (rd_ixL ?_)))
          (sv_seq (sv_store (j := (atL which m).toNat) (k := atL which m) rfl (ev_var rfl) (ev_flat (EvD.to (ev_op (ev_op (ev_var rfl) ev_int (rd_fdiv ?_)) (ev_cb (ea_cons (ev_var rfl) ea_nil) cd_lenC) (rd_mod ?_)) ?k2) rfl) ?k3) (sv_freeze (sv_ret (EvD.to (ev_var rfl) ?k4))))))
        case k1 => rfl
        case k2 =>
          show D.int ((which.fdiv 26).fmod ((base3 m).length : Int)) = D.int (atL which m)
          rw [hl]
          rfl
        case k3 =>
          have ha := fmod_range (which.fdiv 26) (b := 1 + m.fmod 50) (by omega)
          have e : atL which m = (((atL which m).toNat : Nat) : Int) := by
            unfold atL
            omega
          conv => lhs; rw [e]
          refine Evl.ixN_nat ?_
          rw [List.length_map]
          unfold atL
          omega
        case k4 =>
          unfold badLM
          rw [if_neg (by simpa using h18)]
        all_goals first
          | (refine atI_getD (ds := odd8 m) (k := which.fmod 26 - 18) (by omega) ?_; show which.fmod 26 - 18 < ((8 : Nat) : Int); omega)
          | decide
          | (show ((base3 m).length : Int) ≠ 0; omega)
          | (rw [upI_length]; omega)
          | omega
          | exact ⟨by decide, by decide⟩
    all_goals first
      | decide
      | (show (14 : Nat) + 4 ≤ 1000000; decide)⟩
end
end Lw
set_option Elab.async false
set_option linter.all false
set_option maxRecDepth 100000
set_option maxHeartbeats 8000000
namespace Lw
open PySem L2 PyProof.Rows Lh

theorem okd_tp2i {q : Int × Int} : okd 8 (Tp2 D.int D.int q) = true := okd_tup fun x hx => by
  rcases List.mem_cons.mp hx with h | h
  · rw [h]; rfl
  · rw [List.mem_singleton.mp h]; rfl

/-! ### places and takings that are refused -/
def bad10 (m : Int) : List D := [.non, .str "4", .bl true, .bl false, Li [4], .tup [.int 4], .int 0, .int (-1 - m), .int 61, .int (61 + m)]
theorem bad10_all {m : Int} (hm : 0 ≤ m) : ∀ x ∈ bad10 m, tame x = true ∧ plOk x = false := fun x hx => by
  have e1 : decide (1 ≤ -1 - m) = false := decide_eq_false (by omega)
  have e2 : decide (61 + m ≤ 60) = false := decide_eq_false (by omega)
  iterate 7 (rcases List.mem_cons.mp hx with rfl | hx; exact ⟨rfl, rfl⟩)
  rcases List.mem_cons.mp hx with rfl | hx
  · refine ⟨rfl, ?_⟩
    show (decide (1 ≤ -1 - m) && _) = false
    rw [e1]
    rfl
  rcases List.mem_cons.mp hx with rfl | hx
  · exact ⟨rfl, rfl⟩
  · rw [List.mem_singleton.mp hx]
    refine ⟨rfl, ?_⟩
    show (_ && decide (61 + m ≤ 60)) = false
    rw [e2, Bool.and_false]
def bad14t (m : Int) : List D := [.non, .tup [], .str "0", .int 5, .dct, .lst [.non], Lc D.str ["0"], Lc D.bl [true], Li [-1], Li [-1 - m], Li [4], Li [4 + m], Ll [[0]], Li [0, 0]]
theorem bad14t_all {m : Int} (hm : 0 ≤ m) : ∀ x ∈ bad14t m, tame x = true ∧ tkOk 4 x (.lst []) = false ∧ tkOk 4 (Li [2]) x = false := fun x hx => by
  have e1 : decide (0 ≤ -1 - m) = false := decide_eq_false (by omega)
  have e2 : decide (4 + m < 4) = false := decide_eq_false (by omega)
  have no : ∀ y : D, arePl 4 y = false → tkOk 4 y (.lst []) = false ∧ tkOk 4 (Li [2]) y = false := fun y hy => by
    unfold tkOk
    rw [hy]
    exact ⟨rfl, by rw [Bool.and_false]; rfl⟩
  iterate 9 (rcases List.mem_cons.mp hx with rfl | hx; exact ⟨rfl, no _ rfl⟩)
  rcases List.mem_cons.mp hx with rfl | hx
  · refine ⟨rfl, no _ ?_⟩
    show ((decide (0 ≤ -1 - m) && _) && _) = false
    rw [e1]
    rfl
  rcases List.mem_cons.mp hx with rfl | hx
  · exact ⟨rfl, no _ rfl⟩
  rcases List.mem_cons.mp hx with rfl | hx
  · refine ⟨rfl, no _ ?_⟩
    show ((_ && decide (4 + m < 4)) && _) = false
    rw [e2, Bool.and_false]
    rfl
  rcases List.mem_cons.mp hx with rfl | hx
  · exact ⟨rfl, no _ rfl⟩
  · rw [List.mem_singleton.mp hx]
    exact ⟨rfl, by decide +kernel, by decide +kernel⟩
/-- what is known of an error's class: which of the three it is, a ValueError, caught by its base -/
structure Kn (K : PySem.W.Frag) (CP CL CT CE C : Addr) (b1 b2 b3 : Bool) : Prop where
  x : IsEx K C
  p : PySem.W.kitOne K (.ref C) (.ref CP) = some b1
  l : PySem.W.kitOne K (.ref C) (.ref CL) = some b2
  t : PySem.W.kitOne K (.ref C) (.ref CT) = some b3
  v : PySem.W.kitOne K (.ref C) (.type "ValueError") = some true
  e : PySem.W.exmOne K (.ref C) (.ref CE) = some true
section
variable {P : Program} {w : World} {K : PySem.W.Frag} {mg : Str → Option Value} {base : Heap}
def R_told (ds es : List D) : Prop := ∃ kind which m, ds = [.int kind, .int which, .int m] ∧ (0 ≤ kind ∧ kind < 3 ∧ Rg which m) ∧ es = ([decide (kind = 0), decide (kind = 1), decide (kind = 2)] ++ [true]).map D.bl
theorem ev_told {Γ : List En} {ta : TA} {E : XK} {kind which m : Int} (h : EvA K w ta Γ [.int kind, .int which, .int m]) (hc : 0 ≤ kind ∧ kind < 3 ∧ Rg which m) : EvN K w (tCall (spN K w R_told) [] E ta) Γ (([decide (kind = 0), decide (kind = 1), decide (kind = 2)] ++ [true]).map D.bl) := en_call h ⟨kind, which, m, rfl, hc, rfl⟩
theorem ok_ltold {f CP CL CT CE : Addr} {fd : FuncData} (F : Fun K "_law_told" "_law_told" s__law_told f fd) (B : Bn mg) (c_LineError : ExcC K mg "LineError" CE) (c_BadPlaces : ExcC K mg "BadPlaces" CP) (c_BadLines : ExcC K mg "BadLines" CL) (c_BadTakings : ExcC K mg "BadTakings" CT)
    (kP : Kn K CP CL CT CE CP true false false) (kL : Kn K CP CL CT CE CL false true false) (kT : Kn K CP CL CT CE CT false false true)
    (h_told : Has P w K mg base (L2.CX P w) "told" 6 P_told (spX K w RN (RE_asked_lines CP CL))) (h__law_with_board : Has P w K mg base (L2.CX P w) "_law_with_board" 7 P__law_with_board (spX K w RN (RE_wb CP CL CT)))
    (h__law_bad_lines : Has P w K mg base CX0 "_law_bad_lines" 1 P__law_bad_lines (spD K w R_bad_lines)) : FnOk P w K mg base CX0 8 f fd P__law_told (spN K w R_told) :=
  fn_N F sc__law_told (fun ds d ⟨_, _, _, e, _⟩ => by rw [e]; rfl) fun cdv A outer s H E hr => ⟨_, (pss_cons (kTryAs K (i := 6) sc__law_told.nd rfl rfl ⟨rfl, by decide, .inl c_LineError.g⟩ takes0 (fun W pn xe tk _ => (pss_one (ps_if (pt_cmpR (kEq K hr.units) (pv 0) pe_int (nomark _)) (pss_cons (ps_set (i := 3) sc__law_told.nd rfl (by first | exact Or.inl rfl | exact Or.inr rfl) (pe_ix (kIx K) (pe_lst (pa_cons pe_non (pa_cons pe_str (pa_cons pe_bl (pa_cons pe_bl (pa_cons (pe_lst (pa_cons pe_int pa_nil)) (pa_cons (pe_tup (pa_cons pe_int pa_nil)) (pa_cons pe_int (pa_cons (pe_op op_sub (pe_un un_neg pe_int) (pv 2)) (pa_cons pe_int (pa_cons (pe_op op_add pe_int (pv 2)) pa_nil))))))))))) (pe_op op_modN (pv 1) pe_int) (fun _ _ => rfl))) (pss_one (ps_expr (pe_ifExp (pt_cmpR (kEq K hr.units) (pe_op op_modN (pe_op op_fdivN (pv 1) pe_int) pe_int) pe_int (nomark _)) (pcallS h_told (hr.mono (by decide)) (fun σ => passAt tk σ) (by rfl) (pa_cons (pv 3) (pa_cons pe_non pa_nil))) (pcallS h__law_with_board (hr.mono (by decide)) (fun σ => passAt tk σ) (by rfl) (pa_cons (pe_op op_modN (pe_op op_fdivN (pv 1) pe_int) pe_int) (pa_cons (pv 3) (pa_cons pe_non (pa_cons pe_non (pa_cons (pe_lst pa_nil) pa_nil)))))))))) (pss_one (ps_if (pt_cmpR (kEq K hr.units) (pv 0) pe_int (nomark _)) (pss_cons (ps_set (i := 3) sc__law_told.nd rfl (by first | exact Or.inl rfl | exact Or.inr rfl) (pcall h__law_bad_lines (hr.mono (by decide)) pass0 (by rfl) (pa_cons (pv 1) (pa_cons (pv 2) pa_nil)))) (pss_one (ps_expr (pe_ifExp (pt_cmpR (kEq K hr.units) (pe_op op_modN (pe_op op_fdivN (pv 1) pe_int) pe_int) pe_int (nomark _)) (pcallS h_told (hr.mono (by decide)) (fun σ => passAt tk σ) (by rfl) (pa_cons pe_int (pa_cons (pv 3) pa_nil))) (pcallS h__law_with_board (hr.mono (by decide)) (fun σ => passAt tk σ) (by rfl) (pa_cons (pe_op op_modN (pe_op op_fdivN (pv 1) pe_int) pe_int) (pa_cons pe_int (pa_cons (pv 3) (pa_cons pe_non (pa_cons (pe_lst (pa_cons pe_int (pa_cons pe_int pa_nil))) pa_nil)))))))))) (pss_one (ps_if (pt_cmpR op_lt (pe_op op_modN (pv 1) pe_int) pe_int (nomark _)) (pss_cons (ps_set (i := 3) sc__law_told.nd rfl (by first | exact Or.inl rfl | exact Or.inr rfl) (pe_lst (pa_cons pe_non (pa_cons (pe_tup pa_nil) (pa_cons pe_str (pa_cons pe_int (pa_cons pe_dnewK (pa_cons (pe_lst (pa_cons pe_non pa_nil)) (pa_cons (pe_lst (pa_cons pe_str pa_nil)) (pa_cons (pe_lst (pa_cons pe_bl pa_nil)) (pa_cons (pe_lst (pa_cons (pe_un un_neg pe_int) pa_nil)) (pa_cons (pe_lst (pa_cons (pe_op op_sub (pe_un un_neg pe_int) (pv 2)) pa_nil)) (pa_cons (pe_lst (pa_cons pe_int pa_nil)) (pa_cons (pe_lst (pa_cons (pe_op op_add pe_int (pv 2)) pa_nil)) (pa_cons (pe_lst (pa_cons (pe_lst (pa_cons pe_int pa_nil)) pa_nil)) (pa_cons (pe_lst (pa_cons pe_int (pa_cons pe_int pa_nil))) pa_nil)))))))))))))))) (pss_cons (ps_set (i := 3) sc__law_told.nd rfl (by first | exact Or.inl rfl | exact Or.inr rfl) (pe_ix (kIx K) (pv 3) (pe_op op_modN (pv 1) pe_int) (fun _ _ => rfl))) (pss_cons (ps_asg (pe_ifExp (pt_cmpR (kEq K hr.units) (pe_op op_modN (pe_op op_fdivN (pv 1) pe_int) pe_int) pe_int (nomark _)) (pe_tup (pa_cons (pv 3) (pa_cons (pe_lst pa_nil) pa_nil))) (pe_tup (pa_cons (pe_lst (pa_cons pe_int pa_nil)) (pa_cons (pv 3) pa_nil)))) (kTup K (n := 2) rfl (pgs_cons (pg_name (i := 4) sc__law_told.nd rfl (by first | exact Or.inl rfl | exact Or.inr rfl)) (pgs_cons (pg_name (i := 5) sc__law_told.nd rfl (by first | exact Or.inl rfl | exact Or.inr rfl)) pgs_nil)))) (pss_one (ps_expr (pcallS h__law_with_board (hr.mono (by decide)) (fun σ => passAt tk σ) (by rfl) (pa_cons (pe_op op_modN (pe_op op_fdivN (pv 1) pe_int) pe_int) (pa_cons pe_int (pa_cons (pe_lst (pa_cons (pe_lst (pa_cons pe_int (pa_cons pe_int pa_nil))) (pa_cons (pe_lst (pa_cons pe_int pa_nil)) pa_nil))) (pa_cons (pv 4) (pa_cons (pv 5) pa_nil))))))))))) (pss_one (ps_expr (pcallS h__law_with_board (hr.mono (by decide)) (fun σ => passAt tk σ) (by rfl) (pa_cons (pe_op op_modN (pe_op op_fdivN (pv 1) pe_int) pe_int) (pa_cons pe_int (pa_cons (pe_lst (pa_cons (pe_lst (pa_cons pe_int (pa_cons pe_int pa_nil))) (pa_cons (pe_lst (pa_cons pe_int pa_nil)) pa_nil))) (pa_cons (pe_lst (pa_cons pe_int (pa_cons (pe_op op_modN (pv 2) pe_int) pa_nil))) (pa_cons (pe_lst (pa_cons (pe_op op_modN (pv 2) pe_int) pa_nil)) pa_nil))))))))))))))) (fun a oe cls d pn hz hf => (pss_cons (ps_set (i := 7) sc__law_told.nd rfl (by first | exact Or.inl rfl | exact Or.inr rfl) (pe_lst (pa_cons (pe_callB (kIsE K hz hf) (by rfl) B.isinstance bt_isinstance (pa_cons (pv 6) (pa_cons (pe_glob (v := .ref CP) (by rfl) c_BadPlaces.g rfl) pa_nil))) (pa_cons (pe_callB (kIsE K hz hf) (by rfl) B.isinstance bt_isinstance (pa_cons (pv 6) (pa_cons (pe_glob (v := .ref CL) (by rfl) c_BadLines.g rfl) pa_nil))) (pa_cons (pe_callB (kIsE K hz hf) (by rfl) B.isinstance bt_isinstance (pa_cons (pv 6) (pa_cons (pe_glob (v := .ref CT) (by rfl) c_BadTakings.g rfl) pa_nil))) pa_nil))))) (pss_one (ps_ret (pe_op op_cat (pv 7) (pe_lst (pa_cons (pe_callB (kIsE K hz hf) (by rfl) B.isinstance bt_isinstance (pa_cons (pv 6) (pa_cons (pe_bltn (v := .ty "ValueError") (by rfl) B.vErr (by decide +kernel) rfl) pa_nil))) pa_nil)))))))) (pss_one (ps_ret (pe_lst pa_nil)))), fun ds es hR => by
    obtain ⟨kind, which, m, rfl, ⟨k0, k3, hg⟩, rfl⟩ := hR
    obtain ⟨w0, w1, m0, m1⟩ := id hg
    refine sv_seqN ?go
    case go =>
      have h3 : kind = 0 ∨ kind = 1 ∨ kind = 2 := by omega
      rcases h3 with rfl | rfl | rfl
      · have hw := fmod_range which (b := 10) (by decide)
        obtain ⟨g1, g2⟩ := bad10_all m0 _ (getD_in (ds := bad10 m) hw.1 (by show which.fmod 10 < ((10 : Nat) : Int); omega))
        refine sv_try (Γ' := [.un, .un, .un, .un, .un, .un, .un, .un]) (rw_if (b := true) (EvT.to (et_test (ev_op (ev_var rfl) ev_int rd_eqI)) rfl) (fun _ => rw_seq2 (fun W => sv_asg (d := (bad10 m).getD (which.fmod 10).toNat .non) (ev_op (EvN.known (en_lst (ea_cons ev_non (ea_cons ev_str (ea_cons ev_bl (ea_cons ev_bl (ea_cons (EvN.known (en_lst1 D.int ev_int)) (ea_cons (ev_tup (ea_cons ev_int ea_nil)) (ea_cons ev_int (ea_cons (ev_op (ev_neg ev_int) (ev_var rfl) rd_sub) (ea_cons ev_int (ea_cons (ev_op ev_int (ev_var rfl) rd_add) ea_nil)))))))))))) (ev_op (ev_var rfl) ev_int (rd_mod ?_)) (rd_ixL (d := (bad10 m).getD (which.fmod 10).toNat .non) ?_))) (rw_weak (rw_drop fun W => rx_if (et_test (ev_op (ev_op (ev_op (ev_var rfl) ev_int (rd_fdiv ?_)) ev_int (rd_mod ?_)) ev_int rd_eqI)) (fun hB => rx_callS (ea_cons (ev_var rfl) (ea_cons ev_non ea_nil)) ⟨_, _, rfl, g1, rfl, .inl ⟨g2, rfl⟩⟩) (fun hB => rx_callS (ea_cons (ev_op (ev_op (ev_var rfl) ev_int (rd_fdiv ?_)) ev_int (rd_mod ?_)) (ea_cons (ev_var rfl) (ea_cons ev_non (ea_cons ev_non (ea_cons (EvN.known (en_lst ea_nil)) ea_nil))))) ⟨_, _, _, _, _, rfl, _, _, _, _, rfl, g1, rfl, rfl, rfl, .inl ⟨g2, rfl⟩⟩)) (by repeat (first | exact .nil | refine .same ?_ | refine .un ?_)))) (fun z => nomatch z)) kP.e (fun _ z => nomatch z) (fun a => sv_seq (sv_asg (d := Lc D.bl [true, false, false]) (EvN.known (en_lst3 D.bl (ev_cb (ea_cons (ev_var rfl) (ea_cons ev_adr ea_nil)) (cd_isE ?_ ?_)) (ev_cb (ea_cons (ev_var rfl) (ea_cons ev_adr ea_nil)) (cd_isE ?_ ?_)) (ev_cb (ea_cons (ev_var rfl) (ea_cons ev_adr ea_nil)) (cd_isE ?_ ?_))))) (sv_retN (EvN.to (en_op (ev_var rfl) (EvN.known (en_lst1 D.bl (ev_cb (ea_cons (ev_var rfl) (ea_cons ev_ty ea_nil)) (cd_isET ?_ ?_)))) (rn_catT ?_)) rfl)))
        all_goals first
          | exact kP.x
          | exact kP.p
          | exact kP.l
          | exact kP.t
          | exact kP.v
          | exact atI_getD (ds := bad10 m) hw.1 (by show which.fmod 10 < ((10 : Nat) : Int); omega)
          | decide
          | exact ⟨by decide, by decide⟩
      · obtain ⟨g1, g2⟩ := badLM_ok (which := which) m0
        refine sv_try (Γ' := [.un, .un, .un, .un, .un, .un, .un, .un]) (rw_if (b := false) (EvT.to (et_test (ev_op (ev_var rfl) ev_int rd_eqI)) rfl) (fun z => nomatch z) (fun _ => rw_if (b := true) (EvT.to (et_test (ev_op (ev_var rfl) ev_int rd_eqI)) rfl) (fun _ => rw_seq2 (fun W => sv_asg (d := badLM which m) (ev_bad_lines (ea_cons (ev_var rfl) (ea_cons (ev_var rfl) ea_nil)) ?_)) (rw_weak (rw_drop fun W => rx_if (et_test (ev_op (ev_op (ev_op (ev_var rfl) ev_int (rd_fdiv ?_)) ev_int (rd_mod ?_)) ev_int rd_eqI)) (fun hB => rx_callS (ea_cons ev_int (ea_cons (ev_var rfl) ea_nil)) ⟨_, _, rfl, rfl, g1, .inr ⟨4, rfl, rfl, g2, rfl⟩⟩) (fun hB => rx_callS (ea_cons (ev_op (ev_op (ev_var rfl) ev_int (rd_fdiv ?_)) ev_int (rd_mod ?_)) (ea_cons ev_int (ea_cons (ev_var rfl) (ea_cons ev_non (ea_cons (EvN.known (en_lst2 D.int ev_int ev_int)) ea_nil))))) ⟨_, _, _, _, _, rfl, _, _, _, _, rfl, rfl, g1, rfl, rfl, .inr (.inl ⟨4, rfl, rfl, g2, rfl⟩)⟩)) (by repeat (first | exact .nil | refine .same ?_ | refine .un ?_)))) (fun z => nomatch z))) kL.e (fun _ z => nomatch z) (fun a => sv_seq (sv_asg (d := Lc D.bl [false, true, false]) (EvN.known (en_lst3 D.bl (ev_cb (ea_cons (ev_var rfl) (ea_cons ev_adr ea_nil)) (cd_isE ?_ ?_)) (ev_cb (ea_cons (ev_var rfl) (ea_cons ev_adr ea_nil)) (cd_isE ?_ ?_)) (ev_cb (ea_cons (ev_var rfl) (ea_cons ev_adr ea_nil)) (cd_isE ?_ ?_))))) (sv_retN (EvN.to (en_op (ev_var rfl) (EvN.known (en_lst1 D.bl (ev_cb (ea_cons (ev_var rfl) (ea_cons ev_ty ea_nil)) (cd_isET ?_ ?_)))) (rn_catT ?_)) rfl)))
        all_goals first
          | exact kL.x
          | exact kL.p
          | exact kL.l
          | exact kL.t
          | exact kL.v
          | exact hg
          | decide
          | exact ⟨by decide, by decide⟩
      · have hw := fmod_range which (b := 17) (by decide)
        by_cases h14 : which.fmod 17 < 14
        · obtain ⟨g1, g2, g3⟩ := bad14t_all m0 _ (getD_in (ds := bad14t m) hw.1 (by show which.fmod 17 < ((14 : Nat) : Int); omega))
          by_cases h2 : (which.fdiv 17).fmod 2 = 0
          · refine sv_try (Γ' := [.un, .un, .un, .un, .un, .un, .un, .un]) (rw_if (b := false) (EvT.to (et_test (ev_op (ev_var rfl) ev_int rd_eqI)) rfl) (fun z => nomatch z) (fun _ => rw_if (b := false) (EvT.to (et_test (ev_op (ev_var rfl) ev_int rd_eqI)) rfl) (fun z => nomatch z) (fun _ => rw_if (b := true) (EvT.to (et_test (ev_op (ev_op (ev_var rfl) ev_int (rd_mod ?_)) ev_int rd_lt)) (decide_eq_true h14)) (fun _ => rw_seq2 (fun W => sv_asg (d := .lst (bad14t m)) (EvD.to (EvN.known (en_lst (ea_cons ev_non (ea_cons (ev_tup ea_nil) (ea_cons ev_str (ea_cons ev_int (ea_cons ev_dct (ea_cons (EvN.known (en_lst (ea_cons ev_non ea_nil))) (ea_cons (EvN.known (en_lst1 D.str ev_str)) (ea_cons (EvN.known (en_lst1 D.bl ev_bl)) (ea_cons (EvN.known (en_lst1 D.int (ev_neg ev_int))) (ea_cons (EvN.known (en_lst1 D.int (ev_op (ev_neg ev_int) (ev_var rfl) rd_sub))) (ea_cons (EvN.known (en_lst1 D.int ev_int)) (ea_cons (EvN.known (en_lst1 D.int (ev_op ev_int (ev_var rfl) rd_add))) (ea_cons (EvN.known (en_lst1 Li (EvN.known (en_lst1 D.int ev_int)))) (ea_cons (EvN.known (en_lst2 D.int ev_int ev_int)) ea_nil)))))))))))))))) ?v1)) (rw_seq2 (fun W => sv_asg (d := (bad14t m).getD (which.fmod 17).toNat .non) (ev_op (ev_var rfl) (ev_op (ev_var rfl) ev_int (rd_mod ?_)) (rd_ixL (d := (bad14t m).getD (which.fmod 17).toNat .non) ?_)))
              (rw_seq2 (fun W => sv_asg2 (d := (bad14t m).getD (which.fmod 17).toNat .non) (e := .lst []) (EvD.to (ev_ifE (et_test (ev_op (ev_op (ev_op (ev_var rfl) ev_int (rd_fdiv ?_)) ev_int (rd_mod ?_)) ev_int rd_eqI)) (fun hB => (ev_tup (ea_cons (ev_var rfl) (ea_cons (EvN.known (en_lst ea_nil)) ea_nil)))) (fun hB => (ev_tup (ea_cons (EvN.known (en_lst1 D.int ev_int)) (ea_cons (ev_var rfl) ea_nil))))) ?v2)) (rw_weak (rw_drop fun W => rx_callS (ea_cons (ev_op (ev_op (ev_var rfl) ev_int (rd_fdiv ?_)) ev_int (rd_mod ?_)) (ea_cons ev_int (ea_cons (EvN.known (en_lst2 Li (EvN.known (en_lst2 D.int ev_int ev_int)) (EvN.known (en_lst1 D.int ev_int)))) (ea_cons (ev_var rfl) (ea_cons (ev_var rfl) ea_nil))))) ⟨_, _, _, _, _, rfl, _, _, _, _, rfl, rfl, rfl, g1, rfl, .inr (.inr ⟨4, rfl, rfl, by decide +kernel, g2, rfl⟩)⟩) (by repeat (first | exact .nil | refine .same ?_ | refine .un ?_)))))) (fun z => nomatch z)))) kT.e (fun _ z => nomatch z) (fun a => sv_seq (sv_asg (d := Lc D.bl [false, false, true]) (EvN.known (en_lst3 D.bl (ev_cb (ea_cons (ev_var rfl) (ea_cons ev_adr ea_nil)) (cd_isE ?_ ?_)) (ev_cb (ea_cons (ev_var rfl) (ea_cons ev_adr ea_nil)) (cd_isE ?_ ?_)) (ev_cb (ea_cons (ev_var rfl) (ea_cons ev_adr ea_nil)) (cd_isE ?_ ?_))))) (sv_retN (EvN.to (en_op (ev_var rfl) (EvN.known (en_lst1 D.bl (ev_cb (ea_cons (ev_var rfl) (ea_cons ev_ty ea_nil)) (cd_isET ?_ ?_)))) (rn_catT ?_)) rfl)))
            case v1 => rfl
            case v2 => rw [if_pos (decide_eq_true h2)]
            all_goals first
              | exact kT.x
              | exact kT.p
              | exact kT.l
              | exact kT.t
              | exact kT.v
              | exact atI_getD (ds := bad14t m) hw.1 (by show which.fmod 17 < ((14 : Nat) : Int); omega)
              | decide
              | exact ⟨by decide, by decide⟩
          · refine sv_try (Γ' := [.un, .un, .un, .un, .un, .un, .un, .un]) (rw_if (b := false) (EvT.to (et_test (ev_op (ev_var rfl) ev_int rd_eqI)) rfl) (fun z => nomatch z) (fun _ => rw_if (b := false) (EvT.to (et_test (ev_op (ev_var rfl) ev_int rd_eqI)) rfl) (fun z => nomatch z) (fun _ => rw_if (b := true) (EvT.to (et_test (ev_op (ev_op (ev_var rfl) ev_int (rd_mod ?_)) ev_int rd_lt)) (decide_eq_true h14)) (fun _ => rw_seq2 (fun W => sv_asg (d := .lst (bad14t m)) (EvD.to (EvN.known (en_lst (ea_cons ev_non (ea_cons (ev_tup ea_nil) (ea_cons ev_str (ea_cons ev_int (ea_cons ev_dct (ea_cons (EvN.known (en_lst (ea_cons ev_non ea_nil))) (ea_cons (EvN.known (en_lst1 D.str ev_str)) (ea_cons (EvN.known (en_lst1 D.bl ev_bl)) (ea_cons (EvN.known (en_lst1 D.int (ev_neg ev_int))) (ea_cons (EvN.known (en_lst1 D.int (ev_op (ev_neg ev_int) (ev_var rfl) rd_sub))) (ea_cons (EvN.known (en_lst1 D.int ev_int)) (ea_cons (EvN.known (en_lst1 D.int (ev_op ev_int (ev_var rfl) rd_add))) (ea_cons (EvN.known (en_lst1 Li (EvN.known (en_lst1 D.int ev_int)))) (ea_cons (EvN.known (en_lst2 D.int ev_int ev_int)) ea_nil)))))))))))))))) ?v1)) (rw_seq2 (fun W => sv_asg (d := (bad14t m).getD (which.fmod 17).toNat .non) (ev_op (ev_var rfl) (ev_op (ev_var rfl) ev_int (rd_mod ?_)) (rd_ixL (d := (bad14t m).getD (which.fmod 17).toNat .non) ?_)))
              (rw_seq2 (fun W => sv_asg2 (d := Li [2]) (e := (bad14t m).getD (which.fmod 17).toNat .non) (EvD.to (ev_ifE (et_test (ev_op (ev_op (ev_op (ev_var rfl) ev_int (rd_fdiv ?_)) ev_int (rd_mod ?_)) ev_int rd_eqI)) (fun hB => (ev_tup (ea_cons (ev_var rfl) (ea_cons (EvN.known (en_lst ea_nil)) ea_nil)))) (fun hB => (ev_tup (ea_cons (EvN.known (en_lst1 D.int ev_int)) (ea_cons (ev_var rfl) ea_nil))))) ?v2)) (rw_weak (rw_drop fun W => rx_callS (ea_cons (ev_op (ev_op (ev_var rfl) ev_int (rd_fdiv ?_)) ev_int (rd_mod ?_)) (ea_cons ev_int (ea_cons (EvN.known (en_lst2 Li (EvN.known (en_lst2 D.int ev_int ev_int)) (EvN.known (en_lst1 D.int ev_int)))) (ea_cons (ev_var rfl) (ea_cons (ev_var rfl) ea_nil))))) ⟨_, _, _, _, _, rfl, _, _, _, _, rfl, rfl, rfl, rfl, g1, .inr (.inr ⟨4, rfl, rfl, by decide +kernel, g3, rfl⟩)⟩) (by repeat (first | exact .nil | refine .same ?_ | refine .un ?_)))))) (fun z => nomatch z)))) kT.e (fun _ z => nomatch z) (fun a => sv_seq (sv_asg (d := Lc D.bl [false, false, true]) (EvN.known (en_lst3 D.bl (ev_cb (ea_cons (ev_var rfl) (ea_cons ev_adr ea_nil)) (cd_isE ?_ ?_)) (ev_cb (ea_cons (ev_var rfl) (ea_cons ev_adr ea_nil)) (cd_isE ?_ ?_)) (ev_cb (ea_cons (ev_var rfl) (ea_cons ev_adr ea_nil)) (cd_isE ?_ ?_))))) (sv_retN (EvN.to (en_op (ev_var rfl) (EvN.known (en_lst1 D.bl (ev_cb (ea_cons (ev_var rfl) (ea_cons ev_ty ea_nil)) (cd_isET ?_ ?_)))) (rn_catT ?_)) rfl)))
            case v1 => rfl
            case v2 =>
              rw [if_neg (by simpa using h2)]
            all_goals first
              | exact kT.x
              | exact kT.p
              | exact kT.l
              | exact kT.t
              | exact kT.v
              | exact atI_getD (ds := bad14t m) hw.1 (by show which.fmod 17 < ((14 : Nat) : Int); omega)
              | decide
              | exact ⟨by decide, by decide⟩
        · have hm3 := fmod_range m (b := 3) (by decide)
          have ht : tkOk 4 (Li [3, m.fmod 3]) (Li [m.fmod 3]) = false := by
            have c : m.fmod 3 = 0 ∨ m.fmod 3 = 1 ∨ m.fmod 3 = 2 := by omega
            rcases c with c | c | c <;> rw [c] <;> decide +kernel
          refine sv_try (Γ' := [.un, .un, .un, .un, .un, .un, .un, .un]) (rw_if (b := false) (EvT.to (et_test (ev_op (ev_var rfl) ev_int rd_eqI)) rfl) (fun z => nomatch z) (fun _ => rw_if (b := false) (EvT.to (et_test (ev_op (ev_var rfl) ev_int rd_eqI)) rfl) (fun z => nomatch z) (fun _ => rw_if (b := false) (EvT.to (et_test (ev_op (ev_op (ev_var rfl) ev_int (rd_mod ?_)) ev_int rd_lt)) (decide_eq_false h14)) (fun z => nomatch z) (fun _ => rw_weak (rw_drop fun W => rx_callS (ea_cons (ev_op (ev_op (ev_var rfl) ev_int (rd_fdiv ?_)) ev_int (rd_mod ?_)) (ea_cons ev_int (ea_cons (EvN.known (en_lst2 Li (EvN.known (en_lst2 D.int ev_int ev_int)) (EvN.known (en_lst1 D.int ev_int)))) (ea_cons (EvN.known (en_lst2 D.int ev_int (ev_op (ev_var rfl) ev_int (rd_mod ?_)))) (ea_cons (EvN.known (en_lst1 D.int (ev_op (ev_var rfl) ev_int (rd_mod ?_)))) ea_nil))))) ⟨_, _, _, _, _, rfl, _, _, _, _, rfl, rfl, rfl, rfl, rfl, .inr (.inr ⟨4, rfl, rfl, by decide +kernel, ht, rfl⟩)⟩) (by repeat (first | exact .nil | refine .same ?_ | refine .un ?_)))))) kT.e (fun _ z => nomatch z) (fun a => sv_seq (sv_asg (d := Lc D.bl [false, false, true]) (EvN.known (en_lst3 D.bl (ev_cb (ea_cons (ev_var rfl) (ea_cons ev_adr ea_nil)) (cd_isE ?_ ?_)) (ev_cb (ea_cons (ev_var rfl) (ea_cons ev_adr ea_nil)) (cd_isE ?_ ?_)) (ev_cb (ea_cons (ev_var rfl) (ea_cons ev_adr ea_nil)) (cd_isE ?_ ?_))))) (sv_retN (EvN.to (en_op (ev_var rfl) (EvN.known (en_lst1 D.bl (ev_cb (ea_cons (ev_var rfl) (ea_cons ev_ty ea_nil)) (cd_isET ?_ ?_)))) (rn_catT ?_)) rfl)))
          all_goals first
            | exact kT.x
            | exact kT.p
            | exact kT.l
            | exact kT.t
            | exact kT.v
            | decide
            | exact ⟨by decide, by decide⟩⟩
end

section
variable {P : Program} {w : World} {K : PySem.W.Frag} {mg : Str → Option Value} {base : Heap}
def R_law (ds : List D) (d : D) : Prop := ∃ ns, ds = [.scr ns] ∧ (∀ c ∈ ns, Cell c) ∧ d = .bl true
theorem ok_law {f CP CL CT : Addr} {fd : FuncData} (F : Fun K "law" "law" s_law f fd) (B : Bn mg) (h__law_told : Has P w K mg base CX0 "_law_told" 8 P__law_told (spN K w R_told))
    (h_danger : Has P w K mg base (L2.CX P w) "danger" 6 P_danger (spX K w R_danger (RE_asked_board CP CL CT))) (h_full : Has P w K mg base (L2.CX P w) "full" 6 P_full (spXN K w R_full (RE_asked_board CP CL CT))) : FnOk P w K mg base CX0 9 f fd P_law (spD K w R_law) :=
  fn_D F sc_law (fun ds d ⟨_, e, _, _⟩ => by rw [e]; rfl) fun cdv A outer s H E hr => ⟨_, (pss_cons (ps_for PassesOwn.never rfl (kIList K (pv 0)) (pg_name (i := 1) sc_law.nd rfl (by first | exact Or.inl rfl | exact Or.inr rfl)) (pss_cons (ps_set (i := 2) sc_law.nd rfl (by first | exact Or.inl rfl | exact Or.inr rfl) (pe_op op_modN (pv 1) pe_int)) (pss_cons (ps_set (i := 3) sc_law.nd rfl (by first | exact Or.inl rfl | exact Or.inr rfl) (pe_op op_cat (pe_lc (own := [("_law_at", 4)]) rfl sc_law.nd (pi_range1 (by rfl) B.range (pa_cons pe_int pa_nil)) (blkOk_by (by kernel_rfl)) (fun _ _ _ _ _ => (pg_name (i := 4) sc_law.nd rfl (by first | exact Or.inl rfl | exact Or.inr rfl))) (fun _ _ _ _ _ => pts_nil) (fun _ _ _ _ _ => (pe_cmpR (kEq K hr.units) (pv 2) (pv 4) (nomark _)))) (pe_lst (pa_cons pe_bl pa_nil)))) (pss_one (ps_if (pt_cmpR (kNe K hr.units) (pcall h__law_told (hr.mono (by decide)) pass0 (by rfl) (pa_cons (pv 2) (pa_cons (pe_op op_modN (pe_op op_fdivN (pv 1) pe_int) pe_int) (pa_cons (pe_op op_modN (pe_op op_fdivN (pv 1) pe_int) pe_int) pa_nil)))) (pv 3) (nomark _)) (pss_one (ps_ret pe_bl)) pss_nil))))) (pss_one (ps_ret (pe_and (pe_cmpR (kEq K hr.units) (pcall h_danger (hr.mono (by decide)) passL (by rfl) (pa_cons pe_int (pa_cons (pe_op op_rep (pe_lst (pa_cons (pe_lst (pa_cons pe_int pa_nil)) pa_nil)) pe_int) (pa_cons (pe_lst pa_nil) (pa_cons (pe_lst pa_nil) pa_nil))))) (pe_tup (pa_cons pe_int (pa_cons pe_int pa_nil))) (nomark _)) (pe_one (pe_cmpR (kEq K hr.units) (pcall h_full (hr.mono (by decide)) passL (by rfl) (pa_cons pe_int (pa_cons (pe_lst (pa_cons (pe_lst (pa_cons pe_int pa_nil)) pa_nil)) (pa_cons (pe_lst (pa_cons pe_int pa_nil)) (pa_cons (pe_lst pa_nil) pa_nil))))) (pe_lst (pa_cons pe_int pa_nil)) (nomark _))))))), fun ds d hR => by
    obtain ⟨ns, rfl, hc, rfl⟩ := hR
    let G : List En := [.im (.scr ns), .un, .un, .un, .un]
    refine sv_seq (Γ2 := G) (sv_for (ns.map D.int) (fun _ => G) (fun i => G.set 1 (.im ((ns.map D.int).getD i .non))) (ei_scr (ev_var rfl)) (fun i d e => ?t1) (fun i d e => ?t2)) (sv_ret (EvD.to (ev_andV (ev_op (ev_danger (ea_cons ev_int (ea_cons (EvN.known (en_op (EvN.known (en_lst1 Li (EvN.known (en_lst1 D.int ev_int)))) ev_int (rn_repT ?_ ?_ ?_))) (ea_cons (EvN.known (en_lst0 D.int)) (ea_cons (EvN.known (en_lst0 D.int)) ea_nil)))) ?_ ?_) (ev_tup2 D.int D.int ev_int ev_int) (rd_eqK ?_ ?_)) fun hB => (ev_op (EvN.known (ev_full (ea_cons ev_int (ea_cons (EvN.known (en_lst1 Li (EvN.known (en_lst1 D.int ev_int)))) (ea_cons (EvN.known (en_lst1 D.int ev_int)) (ea_cons (EvN.known (en_lst0 D.int)) ea_nil)))) ?_ ?_)) (EvN.known (en_lst1 D.int ev_int)) rd_eqL)) ?e12))
    case t1 =>
      rw [List.getD_eq_getElem?_getD, e]
      exact ts_name
    case t2 =>
      rw [List.getD_eq_getElem?_getD, e]
      rw [List.getElem?_map] at e
      cases hq : ns[i]? with
      | none => rw [hq] at e; cases e
      | some c =>
        rw [hq] at e
        cases e
        have h3 := fmod_range c (b := 3) (by decide)
        have hw := fmod_range (c.fdiv 3) (b := 100000) (by decide)
        have hm := fmod_range (c.fdiv 300000) (b := 1000) (by decide)
        let k := c.fmod 3
        refine Sv.weak (sv_seq (sv_asg (d := .int k) (ev_op (ev_var rfl) ev_int (rd_mod ?_))) (sv_seq (sv_asg (d := Lc D.bl ([decide (k = 0), decide (k = 1), decide (k = 2)] ++ [true])) (EvD.to (EvN.known (en_op (EvN.known (en_lcmT D.int D.bl (ei_range ev_int ?_ ?_) (fun x hx => tc_name (by decide)) (fun x hx => (ev_op (ev_var rfl) (ev_var rfl) rd_eqI)) ?_)) (EvN.known (en_lst1 D.bl ev_bl)) (rn_catT ?_))) ?s1)) (sv_no (EvT.to (et_test (ev_op (EvN.known (ev_told (ea_cons (ev_var rfl) (ea_cons (ev_op (ev_op (ev_var rfl) ev_int (rd_fdiv ?_)) ev_int (rd_mod ?_)) (ea_cons (ev_op (ev_op (ev_var rfl) ev_int (rd_fdiv ?_)) ev_int (rd_mod ?_)) ea_nil))) ?_)) (ev_var rfl) (rd_neK ?_ ?_))) ?s2) sv_next))) (by repeat (first | exact .nil | refine .same ?_ | refine .un ?_))
        case s1 => rfl
        case s2 =>
          rw [deq_refl]
          rfl
        all_goals first
          | exact ⟨h3.1, h3.2, hw.1, hw.2, hm.1, hm.2⟩
          | rfl
          | decide
          | exact ⟨by decide, by decide⟩
          | (rw [List.length_map]; decide)
          | exact okd_lc (n := 7) (c := D.bl) fun y _ => rfl
    case e12 => exact congrArg D.bl (by decide +kernel : (deq (Tp2 D.int D.int (dangM ((List.replicate (60 : Int).toNat [[(59 : Int)]]).flatten) [] [])) (Tp2 D.int D.int (30, 1)) && decide (fullM [[0]] [0] = [0])) = true)
    all_goals first
      | rfl
      | decide
      | exact okd_tp2i
      | exact ⟨by decide, by decide⟩
      | exact ⟨by decide, by decide, by decide, by decide⟩⟩
end
end Lw
set_option Elab.async false
set_option linter.all false
set_option maxRecDepth 100000
set_option maxHeartbeats 8000000
namespace Lw
open PySem L2 PyProof.Rows Lh
/-! ### the end -/
theorem all_mk {P : Program} {w : World} {K : PySem.W.Frag} {h : Heap} {mg : Str → Option Value} {fa : Addr} (X : K.In h) (G : h.Ns mainGlobals mg) (hfa : mg "law" = some (.ref fa))
    {f0 : Addr} {oc0 : Value} {od0 an0 : Option Addr} {sl0 : Array (Option Value)} {kV0 dc0 pm0 cd0 ct0 : Value} (a0 : PySem.W.nsIn K mainGlobals "is_number" = some (some (.ref f0))) (l0 : K.lookup f0 = some ⟨oc0, od0, .func (PySem.W.fnOf "is_number" "is_number" (defArgs s_is_number) (defBody s_is_number) (defScope s_is_number) .none kV0 dc0 pm0 an0 cd0 ct0), sl0⟩) (c0 : PySem.W.codeIn K cd0 "is_number" = true) (k0 : PySem.W.keepIn K (.ref f0) = true)
    {f1 : Addr} {oc1 : Value} {od1 an1 : Option Addr} {sl1 : Array (Option Value)} {kV1 dc1 pm1 cd1 ct1 : Value} (a1 : PySem.W.nsIn K mainGlobals "are_places" = some (some (.ref f1))) (l1 : K.lookup f1 = some ⟨oc1, od1, .func (PySem.W.fnOf "are_places" "are_places" (defArgs s_are_places) (defBody s_are_places) (defScope s_are_places) .none kV1 dc1 pm1 an1 cd1 ct1), sl1⟩) (c1 : PySem.W.codeIn K cd1 "are_places" = true) (k1 : PySem.W.keepIn K (.ref f1) = true)
    {f2 : Addr} {oc2 : Value} {od2 an2 : Option Addr} {sl2 : Array (Option Value)} {kV2 dc2 pm2 cd2 ct2 : Value} (a2 : PySem.W.nsIn K mainGlobals "is_line" = some (some (.ref f2))) (l2 : K.lookup f2 = some ⟨oc2, od2, .func (PySem.W.fnOf "is_line" "is_line" (defArgs s_is_line) (defBody s_is_line) (defScope s_is_line) .none kV2 dc2 pm2 an2 cd2 ct2), sl2⟩) (c2 : PySem.W.codeIn K cd2 "is_line" = true) (k2 : PySem.W.keepIn K (.ref f2) = true)
    {f3 : Addr} {oc3 : Value} {od3 an3 : Option Addr} {sl3 : Array (Option Value)} {kV3 dc3 pm3 cd3 ct3 : Value} (a3 : PySem.W.nsIn K mainGlobals "asked_lines" = some (some (.ref f3))) (l3 : K.lookup f3 = some ⟨oc3, od3, .func (PySem.W.fnOf "asked_lines" "asked_lines" (defArgs s_asked_lines) (defBody s_asked_lines) (defScope s_asked_lines) .none kV3 dc3 pm3 an3 cd3 ct3), sl3⟩) (c3 : PySem.W.codeIn K cd3 "asked_lines" = true) (k3 : PySem.W.keepIn K (.ref f3) = true)
    {f4 : Addr} {oc4 : Value} {od4 an4 : Option Addr} {sl4 : Array (Option Value)} {kV4 dc4 pm4 cd4 ct4 : Value} (a4 : PySem.W.nsIn K mainGlobals "asked_board" = some (some (.ref f4))) (l4 : K.lookup f4 = some ⟨oc4, od4, .func (PySem.W.fnOf "asked_board" "asked_board" (defArgs s_asked_board) (defBody s_asked_board) (defScope s_asked_board) .none kV4 dc4 pm4 an4 cd4 ct4), sl4⟩) (c4 : PySem.W.codeIn K cd4 "asked_board" = true) (k4 : PySem.W.keepIn K (.ref f4) = true)
    {f5 : Addr} {oc5 : Value} {od5 an5 : Option Addr} {sl5 : Array (Option Value)} {kV5 dc5 pm5 cd5 ct5 : Value} (a5 : PySem.W.nsIn K mainGlobals "alive" = some (some (.ref f5))) (l5 : K.lookup f5 = some ⟨oc5, od5, .func (PySem.W.fnOf "alive" "alive" (defArgs s_alive) (defBody s_alive) (defScope s_alive) .none kV5 dc5 pm5 an5 cd5 ct5), sl5⟩) (c5 : PySem.W.codeIn K cd5 "alive" = true) (k5 : PySem.W.keepIn K (.ref f5) = true)
    {f6 : Addr} {oc6 : Value} {od6 an6 : Option Addr} {sl6 : Array (Option Value)} {kV6 dc6 pm6 cd6 ct6 : Value} (a6 : PySem.W.nsIn K mainGlobals "weights" = some (some (.ref f6))) (l6 : K.lookup f6 = some ⟨oc6, od6, .func (PySem.W.fnOf "weights" "weights" (defArgs s_weights) (defBody s_weights) (defScope s_weights) .none kV6 dc6 pm6 an6 cd6 ct6), sl6⟩) (c6 : PySem.W.codeIn K cd6 "weights" = true) (k6 : PySem.W.keepIn K (.ref f6) = true)
    {f7 : Addr} {oc7 : Value} {od7 an7 : Option Addr} {sl7 : Array (Option Value)} {kV7 dc7 pm7 cd7 ct7 : Value} (a7 : PySem.W.nsIn K mainGlobals "lowest" = some (some (.ref f7))) (l7 : K.lookup f7 = some ⟨oc7, od7, .func (PySem.W.fnOf "lowest" "lowest" (defArgs s_lowest) (defBody s_lowest) (defScope s_lowest) .none kV7 dc7 pm7 an7 cd7 ct7), sl7⟩) (c7 : PySem.W.codeIn K cd7 "lowest" = true) (k7 : PySem.W.keepIn K (.ref f7) = true)
    {f8 : Addr} {oc8 : Value} {od8 an8 : Option Addr} {sl8 : Array (Option Value)} {kV8 dc8 pm8 cd8 ct8 : Value} (a8 : PySem.W.nsIn K mainGlobals "sum_of" = some (some (.ref f8))) (l8 : K.lookup f8 = some ⟨oc8, od8, .func (PySem.W.fnOf "sum_of" "sum_of" (defArgs s_sum_of) (defBody s_sum_of) (defScope s_sum_of) .none kV8 dc8 pm8 an8 cd8 ct8), sl8⟩) (c8 : PySem.W.codeIn K cd8 "sum_of" = true) (k8 : PySem.W.keepIn K (.ref f8) = true)
    {f9 : Addr} {oc9 : Value} {od9 an9 : Option Addr} {sl9 : Array (Option Value)} {kV9 dc9 pm9 cd9 ct9 : Value} (a9 : PySem.W.nsIn K mainGlobals "danger" = some (some (.ref f9))) (l9 : K.lookup f9 = some ⟨oc9, od9, .func (PySem.W.fnOf "danger" "danger" (defArgs s_danger) (defBody s_danger) (defScope s_danger) .none kV9 dc9 pm9 an9 cd9 ct9), sl9⟩) (c9 : PySem.W.codeIn K cd9 "danger" = true) (k9 : PySem.W.keepIn K (.ref f9) = true)
    {f10 : Addr} {oc10 : Value} {od10 an10 : Option Addr} {sl10 : Array (Option Value)} {kV10 dc10 pm10 cd10 ct10 : Value} (a10 : PySem.W.nsIn K mainGlobals "worths_of" = some (some (.ref f10))) (l10 : K.lookup f10 = some ⟨oc10, od10, .func (PySem.W.fnOf "worths_of" "worths_of" (defArgs s_worths_of) (defBody s_worths_of) (defScope s_worths_of) .none kV10 dc10 pm10 an10 cd10 ct10), sl10⟩) (c10 : PySem.W.codeIn K cd10 "worths_of" = true) (k10 : PySem.W.keepIn K (.ref f10) = true)
    {f11 : Addr} {oc11 : Value} {od11 an11 : Option Addr} {sl11 : Array (Option Value)} {kV11 dc11 pm11 cd11 ct11 : Value} (a11 : PySem.W.nsIn K mainGlobals "worths" = some (some (.ref f11))) (l11 : K.lookup f11 = some ⟨oc11, od11, .func (PySem.W.fnOf "worths" "worths" (defArgs s_worths) (defBody s_worths) (defScope s_worths) .none kV11 dc11 pm11 an11 cd11 ct11), sl11⟩) (c11 : PySem.W.codeIn K cd11 "worths" = true) (k11 : PySem.W.keepIn K (.ref f11) = true)
    {f12 : Addr} {oc12 : Value} {od12 an12 : Option Addr} {sl12 : Array (Option Value)} {kV12 dc12 pm12 cd12 ct12 : Value} (a12 : PySem.W.nsIn K mainGlobals "sure" = some (some (.ref f12))) (l12 : K.lookup f12 = some ⟨oc12, od12, .func (PySem.W.fnOf "sure" "sure" (defArgs s_sure) (defBody s_sure) (defScope s_sure) .none kV12 dc12 pm12 an12 cd12 ct12), sl12⟩) (c12 : PySem.W.codeIn K cd12 "sure" = true) (k12 : PySem.W.keepIn K (.ref f12) = true)
    {f13 : Addr} {oc13 : Value} {od13 an13 : Option Addr} {sl13 : Array (Option Value)} {kV13 dc13 pm13 cd13 ct13 : Value} (a13 : PySem.W.nsIn K mainGlobals "best" = some (some (.ref f13))) (l13 : K.lookup f13 = some ⟨oc13, od13, .func (PySem.W.fnOf "best" "best" (defArgs s_best) (defBody s_best) (defScope s_best) .none kV13 dc13 pm13 an13 cd13 ct13), sl13⟩) (c13 : PySem.W.codeIn K cd13 "best" = true) (k13 : PySem.W.keepIn K (.ref f13) = true)
    {f14 : Addr} {oc14 : Value} {od14 an14 : Option Addr} {sl14 : Array (Option Value)} {kV14 dc14 pm14 cd14 ct14 : Value} (a14 : PySem.W.nsIn K mainGlobals "full" = some (some (.ref f14))) (l14 : K.lookup f14 = some ⟨oc14, od14, .func (PySem.W.fnOf "full" "full" (defArgs s_full) (defBody s_full) (defScope s_full) .none kV14 dc14 pm14 an14 cd14 ct14), sl14⟩) (c14 : PySem.W.codeIn K cd14 "full" = true) (k14 : PySem.W.keepIn K (.ref f14) = true)
    {f15 : Addr} {oc15 : Value} {od15 an15 : Option Addr} {sl15 : Array (Option Value)} {kV15 dc15 pm15 cd15 ct15 : Value} (a15 : PySem.W.nsIn K mainGlobals "told" = some (some (.ref f15))) (l15 : K.lookup f15 = some ⟨oc15, od15, .func (PySem.W.fnOf "told" "told" (defArgs s_told) (defBody s_told) (defScope s_told) .none kV15 dc15 pm15 an15 cd15 ct15), sl15⟩) (c15 : PySem.W.codeIn K cd15 "told" = true) (k15 : PySem.W.keepIn K (.ref f15) = true)
    {f16 : Addr} {oc16 : Value} {od16 an16 : Option Addr} {sl16 : Array (Option Value)} {kV16 dc16 pm16 cd16 ct16 : Value} (a16 : PySem.W.nsIn K mainGlobals "reply" = some (some (.ref f16))) (l16 : K.lookup f16 = some ⟨oc16, od16, .func (PySem.W.fnOf "reply" "reply" (defArgs s_reply) (defBody s_reply) (defScope s_reply) .none kV16 dc16 pm16 an16 cd16 ct16), sl16⟩) (c16 : PySem.W.codeIn K cd16 "reply" = true) (k16 : PySem.W.keepIn K (.ref f16) = true)
    {f17 : Addr} {oc17 : Value} {od17 an17 : Option Addr} {sl17 : Array (Option Value)} {kV17 dc17 pm17 cd17 ct17 : Value} (a17 : PySem.W.nsIn K mainGlobals "_law_with_board" = some (some (.ref f17))) (l17 : K.lookup f17 = some ⟨oc17, od17, .func (PySem.W.fnOf "_law_with_board" "_law_with_board" (defArgs s__law_with_board) (defBody s__law_with_board) (defScope s__law_with_board) .none kV17 dc17 pm17 an17 cd17 ct17), sl17⟩) (c17 : PySem.W.codeIn K cd17 "_law_with_board" = true) (k17 : PySem.W.keepIn K (.ref f17) = true)
    {f18 : Addr} {oc18 : Value} {od18 an18 : Option Addr} {sl18 : Array (Option Value)} {kV18 dc18 pm18 cd18 ct18 : Value} (a18 : PySem.W.nsIn K mainGlobals "_law_bad_lines" = some (some (.ref f18))) (l18 : K.lookup f18 = some ⟨oc18, od18, .func (PySem.W.fnOf "_law_bad_lines" "_law_bad_lines" (defArgs s__law_bad_lines) (defBody s__law_bad_lines) (defScope s__law_bad_lines) .none kV18 dc18 pm18 an18 cd18 ct18), sl18⟩) (c18 : PySem.W.codeIn K cd18 "_law_bad_lines" = true) (k18 : PySem.W.keepIn K (.ref f18) = true)
    {f19 : Addr} {oc19 : Value} {od19 an19 : Option Addr} {sl19 : Array (Option Value)} {kV19 dc19 pm19 cd19 ct19 : Value} (a19 : PySem.W.nsIn K mainGlobals "_law_told" = some (some (.ref f19))) (l19 : K.lookup f19 = some ⟨oc19, od19, .func (PySem.W.fnOf "_law_told" "_law_told" (defArgs s__law_told) (defBody s__law_told) (defScope s__law_told) .none kV19 dc19 pm19 an19 cd19 ct19), sl19⟩) (c19 : PySem.W.codeIn K cd19 "_law_told" = true) (k19 : PySem.W.keepIn K (.ref f19) = true)
    {f20 : Addr} {oc20 : Value} {od20 an20 : Option Addr} {sl20 : Array (Option Value)} {kV20 dc20 pm20 cd20 ct20 : Value} (a20 : PySem.W.nsIn K mainGlobals "law" = some (some (.ref f20))) (l20 : K.lookup f20 = some ⟨oc20, od20, .func (PySem.W.fnOf "law" "law" (defArgs s_law) (defBody s_law) (defScope s_law) .none kV20 dc20 pm20 an20 cd20 ct20), sl20⟩) (c20 : PySem.W.codeIn K cd20 "law" = true) (k20 : PySem.W.keepIn K (.ref f20) = true)
    {CBadPlaces : Addr} (aBadPlaces : PySem.W.nsIn K mainGlobals "BadPlaces" = some (some (.ref CBadPlaces))) (qBadPlaces : PySem.W.excIn K CBadPlaces [.type "ValueError", .type "Exception", .type "BaseException", .type "object"] "ValueError.__new__" = true) (kBadPlaces : PySem.W.keepIn K (.ref CBadPlaces) = true) (bBadPlaces : PySem.W.subIn K (.ref CBadPlaces) (.type "BaseException") = some true) (tBadPlaces : PySem.W.typeIn K (.ref CBadPlaces) = some (.type "type"))
    {CBadLines : Addr} (aBadLines : PySem.W.nsIn K mainGlobals "BadLines" = some (some (.ref CBadLines))) (qBadLines : PySem.W.excIn K CBadLines [.type "ValueError", .type "Exception", .type "BaseException", .type "object"] "ValueError.__new__" = true) (kBadLines : PySem.W.keepIn K (.ref CBadLines) = true) (bBadLines : PySem.W.subIn K (.ref CBadLines) (.type "BaseException") = some true) (tBadLines : PySem.W.typeIn K (.ref CBadLines) = some (.type "type"))
    {CBadTakings : Addr} (aBadTakings : PySem.W.nsIn K mainGlobals "BadTakings" = some (some (.ref CBadTakings))) (qBadTakings : PySem.W.excIn K CBadTakings [.type "ValueError", .type "Exception", .type "BaseException", .type "object"] "ValueError.__new__" = true) (kBadTakings : PySem.W.keepIn K (.ref CBadTakings) = true) (bBadTakings : PySem.W.subIn K (.ref CBadTakings) (.type "BaseException") = some true) (tBadTakings : PySem.W.typeIn K (.ref CBadTakings) = some (.type "type"))
    {CLineError : Addr} (aLineError : PySem.W.nsIn K mainGlobals "LineError" = some (some (.ref CLineError))) (qLineError : PySem.W.excIn K CLineError [.type "ValueError", .type "Exception", .type "BaseException", .type "object"] "ValueError.__new__" = true) (kLineError : PySem.W.keepIn K (.ref CLineError) = true) (bLineError : PySem.W.subIn K (.ref CLineError) (.type "BaseException") = some true) (tLineError : PySem.W.typeIn K (.ref CLineError) = some (.type "type"))
    {tMOST : Tok} (mMOST : PySem.W.nsIn K mainGlobals "MOST" = some (some (.int 60 tMOST)))
    {tMOST_LINES : Tok} (mMOST_LINES : PySem.W.nsIn K mainGlobals "MOST_LINES" = some (some (.int 60 tMOST_LINES)))
    (zsp : PySem.W.specialIn K (.builtin "object.__class__") "__get__" = some (some (.builtin "getset_descriptor.__get__")))
    (ztk : PySem.W.takesIn K (.builtin "object.__class__") = some true)
    (zic : PySem.W.isClsIn K CLineError = true)
    (xclBadPlaces : PySem.W.isClsIn K CBadPlaces = true)
    (xgaBadPlaces : PySem.W.findIn K (.ref CBadPlaces) "__getattribute__" = some (some (.builtin "BaseException.__getattribute__")))
    (xgtBadPlaces : PySem.W.findIn K (.ref CBadPlaces) "__getattr__" = some none)
    (xcaBadPlaces : PySem.W.findIn K (.ref CBadPlaces) "__class__" = some (some (.builtin "object.__class__")))
    (xmoBadPlaces : PySem.W.mroIn K CBadPlaces (.type "object") = some true)
    (xveBadPlaces : PySem.W.kitOne K (.ref CBadPlaces) (.type "ValueError") = some true)
    (xexBadPlaces : PySem.W.subIn K (.ref CBadPlaces) (.ref CLineError) = some true)
    (xk0BadPlaces : PySem.W.kitOne K (.ref CBadPlaces) (.ref CBadPlaces) = some true)
    (xk1BadPlaces : PySem.W.kitOne K (.ref CBadPlaces) (.ref CBadLines) = some false)
    (xk2BadPlaces : PySem.W.kitOne K (.ref CBadPlaces) (.ref CBadTakings) = some false)
    (xclBadLines : PySem.W.isClsIn K CBadLines = true)
    (xgaBadLines : PySem.W.findIn K (.ref CBadLines) "__getattribute__" = some (some (.builtin "BaseException.__getattribute__")))
    (xgtBadLines : PySem.W.findIn K (.ref CBadLines) "__getattr__" = some none)
    (xcaBadLines : PySem.W.findIn K (.ref CBadLines) "__class__" = some (some (.builtin "object.__class__")))
    (xmoBadLines : PySem.W.mroIn K CBadLines (.type "object") = some true)
    (xveBadLines : PySem.W.kitOne K (.ref CBadLines) (.type "ValueError") = some true)
    (xexBadLines : PySem.W.subIn K (.ref CBadLines) (.ref CLineError) = some true)
    (xk0BadLines : PySem.W.kitOne K (.ref CBadLines) (.ref CBadPlaces) = some false)
    (xk1BadLines : PySem.W.kitOne K (.ref CBadLines) (.ref CBadLines) = some true)
    (xk2BadLines : PySem.W.kitOne K (.ref CBadLines) (.ref CBadTakings) = some false)
    (xclBadTakings : PySem.W.isClsIn K CBadTakings = true)
    (xgaBadTakings : PySem.W.findIn K (.ref CBadTakings) "__getattribute__" = some (some (.builtin "BaseException.__getattribute__")))
    (xgtBadTakings : PySem.W.findIn K (.ref CBadTakings) "__getattr__" = some none)
    (xcaBadTakings : PySem.W.findIn K (.ref CBadTakings) "__class__" = some (some (.builtin "object.__class__")))
    (xmoBadTakings : PySem.W.mroIn K CBadTakings (.type "object") = some true)
    (xveBadTakings : PySem.W.kitOne K (.ref CBadTakings) (.type "ValueError") = some true)
    (xexBadTakings : PySem.W.subIn K (.ref CBadTakings) (.ref CLineError) = some true)
    (xk0BadTakings : PySem.W.kitOne K (.ref CBadTakings) (.ref CBadPlaces) = some false)
    (xk1BadTakings : PySem.W.kitOne K (.ref CBadTakings) (.ref CBadLines) = some false)
    (xk2BadTakings : PySem.W.kitOne K (.ref CBadTakings) (.ref CBadTakings) = some true)
    (zlen : PySem.W.nsIn K mainGlobals "len" = some none)
    (zany : PySem.W.nsIn K mainGlobals "any" = some none)
    (zall : PySem.W.nsIn K mainGlobals "all" = some none)
    (zsum : PySem.W.nsIn K mainGlobals "sum" = some none)
    (zmax : PySem.W.nsIn K mainGlobals "max" = some none)
    (zmin : PySem.W.nsIn K mainGlobals "min" = some none)
    (zrange : PySem.W.nsIn K mainGlobals "range" = some none)
    (zlist : PySem.W.nsIn K mainGlobals "list" = some none)
    (zset : PySem.W.nsIn K mainGlobals "set" = some none)
    (zsorted : PySem.W.nsIn K mainGlobals "sorted" = some none)
    (zenumerate : PySem.W.nsIn K mainGlobals "enumerate" = some none)
    (zzip : PySem.W.nsIn K mainGlobals "zip" = some none)
    (zisinstance : PySem.W.nsIn K mainGlobals "isinstance" = some none)
    (zint : PySem.W.nsIn K mainGlobals "int" = some none)
    (zbool : PySem.W.nsIn K mainGlobals "bool" = some none)
    (ztuple : PySem.W.nsIn K mainGlobals "tuple" = some none)
    (zstr : PySem.W.nsIn K mainGlobals "str" = some none)
    (zabs : PySem.W.nsIn K mainGlobals "abs" = some none)
    (zValueError : PySem.W.nsIn K mainGlobals "ValueError" = some none) :
    ∃ fd : FuncData, (∀ (s : Shared) (u : Value), BindsTo s fd ⟨[u], []⟩ [("_law_script", u)]) ∧ ∀ base : Heap, K.In base → base.Ns mainGlobals mg → FnOk P w K mg base CX0 9 fa fd ["_law_script"] (spD K w R_law) := by
  have e := hfa.symm.trans (PySem.W.mg_of X G a20)
  cases e
  have B : Bn mg := { len := PySem.W.mg_none_of X G zlen, any := PySem.W.mg_none_of X G zany, all := PySem.W.mg_none_of X G zall, sum := PySem.W.mg_none_of X G zsum, max := PySem.W.mg_none_of X G zmax, min := PySem.W.mg_none_of X G zmin, range := PySem.W.mg_none_of X G zrange, list := PySem.W.mg_none_of X G zlist, set := PySem.W.mg_none_of X G zset, sorted := PySem.W.mg_none_of X G zsorted, enumerate := PySem.W.mg_none_of X G zenumerate, zip := PySem.W.mg_none_of X G zzip, isinstance := PySem.W.mg_none_of X G zisinstance, int := PySem.W.mg_none_of X G zint, bool := PySem.W.mg_none_of X G zbool, tuple := PySem.W.mg_none_of X G ztuple, str := PySem.W.mg_none_of X G zstr, abs := PySem.W.mg_none_of X G zabs, vErr := PySem.W.mg_none_of X G zValueError }
  have c_BadPlaces : ExcC K mg "BadPlaces" CBadPlaces := ⟨PySem.W.mg_of X G aBadPlaces, qBadPlaces, kBadPlaces, bBadPlaces, tBadPlaces⟩
  have c_BadLines : ExcC K mg "BadLines" CBadLines := ⟨PySem.W.mg_of X G aBadLines, qBadLines, kBadLines, bBadLines, tBadLines⟩
  have c_BadTakings : ExcC K mg "BadTakings" CBadTakings := ⟨PySem.W.mg_of X G aBadTakings, qBadTakings, kBadTakings, bBadTakings, tBadTakings⟩
  have c_LineError : ExcC K mg "LineError" CLineError := ⟨PySem.W.mg_of X G aLineError, qLineError, kLineError, bLineError, tLineError⟩
  have g_MOST : ∃ t, mg "MOST" = some (.int 60 t) := ⟨_, PySem.W.mg_of X G mMOST⟩
  have g_MOST_LINES : ∃ t, mg "MOST_LINES" = some (.int 60 t) := ⟨_, PySem.W.mg_of X G mMOST_LINES⟩
  have kn_BadPlaces : Kn K CBadPlaces CBadLines CBadTakings CLineError CBadPlaces true false false := ⟨⟨xclBadPlaces, xgaBadPlaces, ⟨_, xgtBadPlaces⟩, bBadPlaces, xcaBadPlaces, zsp, ztk, xmoBadPlaces⟩, xk0BadPlaces, xk1BadPlaces, xk2BadPlaces, xveBadPlaces, exm_base bLineError zic tLineError xexBadPlaces⟩
  have kn_BadLines : Kn K CBadPlaces CBadLines CBadTakings CLineError CBadLines false true false := ⟨⟨xclBadLines, xgaBadLines, ⟨_, xgtBadLines⟩, bBadLines, xcaBadLines, zsp, ztk, xmoBadLines⟩, xk0BadLines, xk1BadLines, xk2BadLines, xveBadLines, exm_base bLineError zic tLineError xexBadLines⟩
  have kn_BadTakings : Kn K CBadPlaces CBadLines CBadTakings CLineError CBadTakings false false true := ⟨⟨xclBadTakings, xgaBadTakings, ⟨_, xgtBadTakings⟩, bBadTakings, xcaBadTakings, zsp, ztk, xmoBadTakings⟩, xk0BadTakings, xk1BadTakings, xk2BadTakings, xveBadTakings, exm_base bLineError zic tLineError xexBadTakings⟩
  refine ⟨PySem.W.fnOf "law" "law" (defArgs s_law) (defBody s_law) (defScope s_law) .none kV20 dc20 pm20 an20 cd20 ct20, fun s u => .of_eq rfl, fun base _ _ => ?_⟩
  have h_is_number : Has P w K mg base _ "is_number" _ _ _ := ⟨_, _, PySem.W.mg_of X G a0, k0, (fun_mk (st := s_is_number) l0 c0 k0).binds (ps := P_is_number) fun _ _ _ _ _ _ us hl => match us, hl with | [_], _ => rfl, ok_is_number (fun_mk (st := s_is_number) l0 c0 k0) B  ⟩
  have h_are_places : Has P w K mg base _ "are_places" _ _ _ := ⟨_, _, PySem.W.mg_of X G a1, k1, (fun_mk (st := s_are_places) l1 c1 k1).binds (ps := P_are_places) fun _ _ _ _ _ _ us hl => match us, hl with | [_, _], _ => rfl, ok_are_places (fun_mk (st := s_are_places) l1 c1 k1) B  h_is_number⟩
  have h_is_line : Has P w K mg base _ "is_line" _ _ _ := ⟨_, _, PySem.W.mg_of X G a2, k2, (fun_mk (st := s_is_line) l2 c2 k2).binds (ps := P_is_line) fun _ _ _ _ _ _ us hl => match us, hl with | [_, _], _ => rfl, ok_is_line (fun_mk (st := s_is_line) l2 c2 k2) B  h_are_places⟩
  have h_asked_lines : Has P w K mg base _ "asked_lines" _ _ _ := ⟨_, _, PySem.W.mg_of X G a3, k3, (fun_mk (st := s_asked_lines) l3 c3 k3).binds (ps := P_asked_lines) fun _ _ _ _ _ _ us hl => match us, hl with | [_, _], _ => rfl, ok_asked_lines (fun_mk (st := s_asked_lines) l3 c3 k3) B c_BadPlaces c_BadLines g_MOST g_MOST_LINES h_is_number h_is_line⟩
  have h_asked_board : Has P w K mg base _ "asked_board" _ _ _ := ⟨_, _, PySem.W.mg_of X G a4, k4, (fun_mk (st := s_asked_board) l4 c4 k4).binds (ps := P_asked_board) fun _ _ _ _ _ _ us hl => match us, hl with | [_, _, _, _], _ => rfl, ok_asked_board (fun_mk (st := s_asked_board) l4 c4 k4) B c_BadTakings h_are_places h_asked_lines⟩
  have h_alive : Has P w K mg base _ "alive" _ _ _ := ⟨_, _, PySem.W.mg_of X G a5, k5, (fun_mk (st := s_alive) l5 c5 k5).binds (ps := P_alive) fun _ _ _ _ _ _ us hl => match us, hl with | [_, _], _ => rfl, ok_alive (fun_mk (st := s_alive) l5 c5 k5) B  ⟩
  have h_weights : Has P w K mg base _ "weights" _ _ _ := ⟨_, _, PySem.W.mg_of X G a6, k6, (fun_mk (st := s_weights) l6 c6 k6).binds (ps := P_weights) fun _ _ _ _ _ _ us hl => match us, hl with | [_, _, _], _ => rfl, ok_weights (fun_mk (st := s_weights) l6 c6 k6) B  h_alive⟩
  have h_lowest : Has P w K mg base _ "lowest" _ _ _ := ⟨_, _, PySem.W.mg_of X G a7, k7, (fun_mk (st := s_lowest) l7 c7 k7).binds (ps := P_lowest) fun _ _ _ _ _ _ us hl => match us, hl with | [_, _], _ => rfl, ok_lowest (fun_mk (st := s_lowest) l7 c7 k7) B  ⟩
  have h_sum_of : Has P w K mg base _ "sum_of" _ _ _ := ⟨_, _, PySem.W.mg_of X G a8, k8, (fun_mk (st := s_sum_of) l8 c8 k8).binds (ps := P_sum_of) fun _ _ _ _ _ _ us hl => match us, hl with | [_, _, _], _ => rfl, ok_sum_of (fun_mk (st := s_sum_of) l8 c8 k8) B  h_weights h_lowest⟩
  have h_danger : Has P w K mg base _ "danger" _ _ _ := ⟨_, _, PySem.W.mg_of X G a9, k9, (fun_mk (st := s_danger) l9 c9 k9).binds (ps := P_danger) fun _ _ _ _ _ _ us hl => match us, hl with | [_, _, _, _], _ => rfl, ok_danger (fun_mk (st := s_danger) l9 c9 k9) B  h_asked_board h_sum_of⟩
  have h_worths_of : Has P w K mg base _ "worths_of" _ _ _ := ⟨_, _, PySem.W.mg_of X G a10, k10, (fun_mk (st := s_worths_of) l10 c10 k10).binds (ps := P_worths_of) fun _ _ _ _ _ _ us hl => match us, hl with | [_, _, _, _], _ => rfl, ok_worths_of (fun_mk (st := s_worths_of) l10 c10 k10) B  h_weights h_lowest⟩
  have h_worths : Has P w K mg base _ "worths" _ _ _ := ⟨_, _, PySem.W.mg_of X G a11, k11, (fun_mk (st := s_worths) l11 c11 k11).binds (ps := P_worths) fun _ _ _ _ _ _ us hl => match us, hl with | [_, _, _, _], _ => rfl, ok_worths (fun_mk (st := s_worths) l11 c11 k11) B  h_asked_board h_worths_of⟩
  have h_sure : Has P w K mg base _ "sure" _ _ _ := ⟨_, _, PySem.W.mg_of X G a12, k12, (fun_mk (st := s_sure) l12 c12 k12).binds (ps := P_sure) fun _ _ _ _ _ _ us hl => match us, hl with | [_, _, _, _], _ => rfl, ok_sure (fun_mk (st := s_sure) l12 c12 k12) B  h_asked_board h_sum_of⟩
  have h_best : Has P w K mg base _ "best" _ _ _ := ⟨_, _, PySem.W.mg_of X G a13, k13, (fun_mk (st := s_best) l13 c13 k13).binds (ps := P_best) fun _ _ _ _ _ _ us hl => match us, hl with | [_, _, _, _], _ => rfl, ok_best (fun_mk (st := s_best) l13 c13 k13) B  h_asked_board h_weights⟩
  have h_full : Has P w K mg base _ "full" _ _ _ := ⟨_, _, PySem.W.mg_of X G a14, k14, (fun_mk (st := s_full) l14 c14 k14).binds (ps := P_full) fun _ _ _ _ _ _ us hl => match us, hl with | [_, _, _, _], _ => rfl, ok_full (fun_mk (st := s_full) l14 c14 k14) B  h_asked_board⟩
  have h_told : Has P w K mg base _ "told" _ _ _ := ⟨_, _, PySem.W.mg_of X G a15, k15, (fun_mk (st := s_told) l15 c15 k15).binds (ps := P_told) fun _ _ _ _ _ _ us hl => match us, hl with | [_, _], _ => rfl, ok_told (fun_mk (st := s_told) l15 c15 k15) B  h_asked_lines⟩
  have h_reply : Has P w K mg base _ "reply" _ _ _ := ⟨_, _, PySem.W.mg_of X G a16, k16, (fun_mk (st := s_reply) l16 c16 k16).binds (ps := P_reply) fun _ _ _ _ _ _ us hl => match us, hl with | [_, _, _, _], _ => rfl, ok_reply (fun_mk (st := s_reply) l16 c16 k16) B  h_asked_board⟩
  have h__law_with_board : Has P w K mg base _ "_law_with_board" _ _ _ := ⟨_, _, PySem.W.mg_of X G a17, k17, (fun_mk (st := s__law_with_board) l17 c17 k17).binds (ps := P__law_with_board) fun _ _ _ _ _ _ us hl => match us, hl with | [_, _, _, _, _], _ => rfl, ok_wb (fun_mk (st := s__law_with_board) l17 c17 k17) B  h_danger h_worths h_sure h_best h_full h_reply⟩
  have h__law_bad_lines : Has P w K mg base _ "_law_bad_lines" _ _ _ := ⟨_, _, PySem.W.mg_of X G a18, k18, (fun_mk (st := s__law_bad_lines) l18 c18 k18).binds (ps := P__law_bad_lines) fun _ _ _ _ _ _ us hl => match us, hl with | [_, _], _ => rfl, ok_bad_lines (fun_mk (st := s__law_bad_lines) l18 c18 k18) B  ⟩
  have h__law_told : Has P w K mg base _ "_law_told" _ _ _ := ⟨_, _, PySem.W.mg_of X G a19, k19, (fun_mk (st := s__law_told) l19 c19 k19).binds (ps := P__law_told) fun _ _ _ _ _ _ us hl => match us, hl with | [_, _, _], _ => rfl, ok_ltold (fun_mk (st := s__law_told) l19 c19 k19) B c_LineError c_BadPlaces c_BadLines c_BadTakings kn_BadPlaces kn_BadLines kn_BadTakings h_told h__law_with_board h__law_bad_lines⟩
  exact ok_law (fun_mk (st := s_law) l20 c20 k20) B  h__law_told h_danger h_full
end Lw
open PySem PySem.W PyProof.Rows
set_option maxRecDepth 100000 in
set_option maxHeartbeats 0 in
theorem PySem.Challenge.cw_linehold_k05_refused_holds : PySem.Challenge.rw_linehold_k05_refused.Holds := by
  w_on; o_law; k_head; (case hw => w_witness2)
  k_fill
  refine Lh.walk_law (l := PySem.Challenge.rw_linehold_k05_refused) (n := 63) (k := 9) (x := "_law_script") Lw.R_law ?S rfl (by decide) rfl ⟨rfl, by decide, by decide⟩ (fun w h Y => PySem.W.kIn_of Y) ?F
  case F =>
    intro w mg fa h KX G hmg
    refine' Lw.all_mk KX G hmg ?a0 ?l0 ?c0 ?k0 ?a1 ?l1 ?c1 ?k1 ?a2 ?l2 ?c2 ?k2 ?a3 ?l3 ?c3 ?k3 ?a4 ?l4 ?c4 ?k4 ?a5 ?l5 ?c5 ?k5 ?a6 ?l6 ?c6 ?k6 ?a7 ?l7 ?c7 ?k7 ?a8 ?l8 ?c8 ?k8 ?a9 ?l9 ?c9 ?k9 ?a10 ?l10 ?c10 ?k10 ?a11 ?l11 ?c11 ?k11 ?a12 ?l12 ?c12 ?k12 ?a13 ?l13 ?c13 ?k13 ?a14 ?l14 ?c14 ?k14 ?a15 ?l15 ?c15 ?k15 ?a16 ?l16 ?c16 ?k16 ?a17 ?l17 ?c17 ?k17 ?a18 ?l18 ?c18 ?k18 ?a19 ?l19 ?c19 ?k19 ?a20 ?l20 ?c20 ?k20 ?aBadPlaces ?qBadPlaces ?kBadPlaces ?bBadPlaces ?tBadPlaces ?aBadLines ?qBadLines ?kBadLines ?bBadLines ?tBadLines ?aBadTakings ?qBadTakings ?kBadTakings ?bBadTakings ?tBadTakings ?aLineError ?qLineError ?kLineError ?bLineError ?tLineError ?mMOST ?mMOST_LINES ?zsp ?ztk ?zic ?xclBadPlaces ?xgaBadPlaces ?xgtBadPlaces ?xcaBadPlaces ?xmoBadPlaces ?xveBadPlaces ?xexBadPlaces ?xk0BadPlaces ?xk1BadPlaces ?xk2BadPlaces ?xclBadLines ?xgaBadLines ?xgtBadLines ?xcaBadLines ?xmoBadLines ?xveBadLines ?xexBadLines ?xk0BadLines ?xk1BadLines ?xk2BadLines ?xclBadTakings ?xgaBadTakings ?xgtBadTakings ?xcaBadTakings ?xmoBadTakings ?xveBadTakings ?xexBadTakings ?xk0BadTakings ?xk1BadTakings ?xk2BadTakings ?zlen ?zany ?zall ?zsum ?zmax ?zmin ?zrange ?zlist ?zset ?zsorted ?zenumerate ?zzip ?zisinstance ?zint ?zbool ?ztuple ?zstr ?zabs ?zValueError
    (case a0 => k_is); (case l0 => k_is); (case c0 => k_is); (case k0 => k_is); (case a1 => k_is); (case l1 => k_is); (case c1 => k_is); (case k1 => k_is); (case a2 => k_is)
    (case l2 => k_is); (case c2 => k_is); (case k2 => k_is); (case a3 => k_is); (case l3 => k_is); (case c3 => k_is); (case k3 => k_is); (case a4 => k_is); (case l4 => k_is)
    (case c4 => k_is); (case k4 => k_is); (case a5 => k_is); (case l5 => k_is); (case c5 => k_is); (case k5 => k_is); (case a6 => k_is); (case l6 => k_is); (case c6 => k_is)
    (case k6 => k_is); (case a7 => k_is); (case l7 => k_is); (case c7 => k_is); (case k7 => k_is); (case a8 => k_is); (case l8 => k_is); (case c8 => k_is); (case k8 => k_is)
    (case a9 => k_is); (case l9 => k_is); (case c9 => k_is); (case k9 => k_is); (case a10 => k_is); (case l10 => k_is); (case c10 => k_is); (case k10 => k_is); (case a11 => k_is)
    (case l11 => k_is); (case c11 => k_is); (case k11 => k_is); (case a12 => k_is); (case l12 => k_is); (case c12 => k_is); (case k12 => k_is); (case a13 => k_is)
    (case l13 => k_is); (case c13 => k_is); (case k13 => k_is); (case a14 => k_is); (case l14 => k_is); (case c14 => k_is); (case k14 => k_is); (case a15 => k_is)
    (case l15 => k_is); (case c15 => k_is); (case k15 => k_is); (case a16 => k_is); (case l16 => k_is); (case c16 => k_is); (case k16 => k_is); (case a17 => k_is)
    (case l17 => k_is); (case c17 => k_is); (case k17 => k_is); (case a18 => k_is); (case l18 => k_is); (case c18 => k_is); (case k18 => k_is); (case a19 => k_is)
    (case l19 => k_is); (case c19 => k_is); (case k19 => k_is); (case a20 => k_is); (case l20 => k_is); (case c20 => k_is); (case k20 => k_is); (case aBadPlaces => k_is)
    (case qBadPlaces => k_exc); (case kBadPlaces => k_is); (case bBadPlaces => k_is); (case tBadPlaces => k_is); (case aBadLines => k_is); (case qBadLines => k_exc)
    (case kBadLines => k_is); (case bBadLines => k_is); (case tBadLines => k_is); (case aBadTakings => k_is); (case qBadTakings => k_exc); (case kBadTakings => k_is)
    (case bBadTakings => k_is); (case tBadTakings => k_is); (case aLineError => k_is); (case qLineError => k_exc); (case kLineError => k_is); (case bLineError => k_is)
    (case tLineError => k_is); (case mMOST => k_is); (case mMOST_LINES => k_is); (case zsp => k_is); (case ztk => k_is); (case zic => k_is); (case xclBadPlaces => k_is)
    (case xgaBadPlaces => k_is); (case xgtBadPlaces => k_is); (case xcaBadPlaces => k_is); (case xmoBadPlaces => k_is); (case xveBadPlaces => kit_is); (case xexBadPlaces => k_is)
    (case xk0BadPlaces => kit_is); (case xk1BadPlaces => kit_is); (case xk2BadPlaces => kit_is); (case xclBadLines => k_is); (case xgaBadLines => k_is); (case xgtBadLines => k_is)
    (case xcaBadLines => k_is); (case xmoBadLines => k_is); (case xveBadLines => kit_is); (case xexBadLines => k_is); (case xk0BadLines => kit_is); (case xk1BadLines => kit_is)
    (case xk2BadLines => kit_is); (case xclBadTakings => k_is); (case xgaBadTakings => k_is); (case xgtBadTakings => k_is); (case xcaBadTakings => k_is); (case xmoBadTakings => k_is)
    (case xveBadTakings => kit_is); (case xexBadTakings => k_is); (case xk0BadTakings => kit_is); (case xk1BadTakings => kit_is); (case xk2BadTakings => kit_is); (case zlen => k_is)
    (case zany => k_is); (case zall => k_is); (case zsum => k_is); (case zmax => k_is); (case zmin => k_is); (case zrange => k_is); (case zlist => k_is); (case zset => k_is)
    (case zsorted => k_is); (case zenumerate => k_is); (case zzip => k_is); (case zisinstance => k_is); (case zint => k_is); (case zbool => k_is); (case ztuple => k_is)
    (case zstr => k_is); (case zabs => k_is); (case zValueError => k_is)
  case S => exact fun ns hlen hb => ⟨ns, rfl, fun c hc => Nat.le_succ_of_le (hb c hc), rfl⟩
