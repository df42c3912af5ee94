import PyProof.Rows.All
import Wide.All
import OpenK.AllK
import Wide.FinOn
import HandS.ForMost
import HandS.IsInst
import HandS.Walk
import HandS.Deep
import KE.GoesNew
import KE.GoesMore
import HandS.RaiseMore
import PySem.Challenge.RW_wholekinds_k73_whole_rounds_of_one_word
set_option Elab.async false
set_option linter.all false
set_option maxRecDepth 100000
set_option maxHeartbeats 4000000
/-! NL: the pure layer. Values are trees; lists that a def grows are owned by one name. -/
namespace NL
open PySem PySem.Spec PyProof.Rows L2

/-- a value as a tree -/
inductive PV where
  | non | bl (b : Bool) | int (i : Int) | str (cs : List Nat) | adr (a : Addr) | ty (n : String)
  | tup (xs : List PV) | lst (xs : List PV) | dct (kvs : List (PV × PV))
  /-- the law's source of draws: its kind, how many draws are left (an argument alone) -/
  | res (k n : Nat)

abbrev Fr' := PySem.W.Frag

mutual
inductive Is (K : PySem.W.Frag) (G : Hp) : V → PV → Prop
  | non : Is K G .non .non
  | bl (b : Bool) : Is K G (.bl b) (.bl b)
  | int (i : Int) : Is K G (.int i) (.int i)
  | str (x : Str) (h : x.length ≤ sizeLine) (h2 : PyData.strOk x = true) : Is K G (.str x) (.str x.cps.toList)
  | adr (a : Addr) : Is K G (.ref a) (.adr a)
  | ty (n : String) : Is K G (.ty n) (.ty n)
  | tup {a : Addr} {vs : List V} {xs : List PV} : SqT K G a vs → IsL K G vs xs → Is K G (.ref a) (.tup xs)
  | lst {a : Addr} {vs : List V} {xs : List PV} : SqL K G a vs → IsL K G vs xs → Is K G (.ref a) (.lst xs)
inductive IsL (K : PySem.W.Frag) (G : Hp) : List V → List PV → Prop
  | nil : IsL K G [] []
  | cons {v : V} {x : PV} {vs : List V} {xs : List PV} : Is K G v x → IsL K G vs xs → IsL K G (v :: vs) (x :: xs)
end

/-- part of -/
def Sub (G H : Hp) : Prop := ∀ a o, G a = some o → H a = some o
theorem Sub.refl (H : Hp) : Sub H H := fun _ _ h => h
theorem Sub.trans {A B C : Hp} (h : Sub A B) (k : Sub B C) : Sub A C := fun a o e => k a o (h a o e)
theorem Sub.new {H : Hp} {p : Addr} {o : HO} (h : H p = none) : Sub H (upd H p o) := fun a u e => by
  rw [upd_ne (ne_of_none e h)]; exact e
theorem Sub.ne {G H : Hp} {a : Addr} (s : Sub G H) (h : H a = none) : G a = none := by
  cases e : G a with
  | none => rfl
  | some o => rw [s a o e] at h; cases h
theorem Sub.rd {G H : Hp} {a : Addr} {u : HO} (s : Sub G H) (h : Rd G a u) : Rd H a u := by
  rcases h with h | ⟨o, h⟩
  · exact .inl (s _ _ h)
  · exact .inr ⟨o, s _ _ h⟩
theorem Sub.sql {K : PySem.W.Frag} {G H : Hp} {a : Addr} {xs : List V} (s : Sub G H) (h : SqL K G a xs) : SqL K H a xs := by
  rcases h with h | h
  · exact .inl (s.rd h)
  · exact .inr h
theorem Sub.sqt {K : PySem.W.Frag} {G H : Hp} {a : Addr} {xs : List V} (s : Sub G H) (h : SqT K G a xs) : SqT K H a xs := by
  rcases h with h | h
  · exact .inl (s.rd h)
  · exact .inr h

section
variable {K : PySem.W.Frag} {G H : Hp}
mutual
theorem Is.mono (s : Sub G H) : ∀ {v : V} {x : PV}, Is K G v x → Is K H v x
  | _, _, .non => .non
  | _, _, .bl b => .bl b
  | _, _, .int i => .int i
  | _, _, .str x h h2 => .str x h h2
  | _, _, .adr a => .adr a
  | _, _, .ty n => .ty n
  | _, _, .tup h l => .tup (s.sqt h) (IsL.mono s l)
  | _, _, .lst h l => .lst (s.sql h) (IsL.mono s l)
theorem IsL.mono (s : Sub G H) : ∀ {v : List V} {x : List PV}, IsL K G v x → IsL K H v x
  | _, _, .nil => .nil
  | _, _, .cons h l => .cons (Is.mono s h) (IsL.mono s l)
end
theorem IsL.len : ∀ {vs : List V} {xs : List PV}, IsL K G vs xs → vs.length = xs.length
  | _, _, .nil => rfl
  | _, _, .cons _ l => by rw [List.length_cons, List.length_cons, IsL.len l]
theorem IsL.get : ∀ {vs : List V} {xs : List PV} {i : Nat} {x : PV}, IsL K G vs xs → xs[i]? = some x → ∃ v, vs[i]? = some v ∧ Is K G v x
  | _, _, _, _, .nil, e => by simp at e
  | _, _, 0, _, .cons h _, e => by simp at e; subst e; exact ⟨_, rfl, h⟩
  | _, _, i + 1, _, .cons _ l, e => by
    obtain ⟨v, h1, h2⟩ := IsL.get (i := i) l (by simpa using e)
    exact ⟨v, by simpa using h1, h2⟩
theorem IsL.getV : ∀ {vs : List V} {xs : List PV} {i : Nat} {v : V}, IsL K G vs xs → vs[i]? = some v → ∃ x, xs[i]? = some x ∧ Is K G v x
  | _, _, _, _, .nil, e => by simp at e
  | _, _, 0, _, .cons h _, e => by simp at e; subst e; exact ⟨_, rfl, h⟩
  | _, _, i + 1, _, .cons _ l, e => by
    obtain ⟨v, h1, h2⟩ := IsL.getV (i := i) l (by simpa using e)
    exact ⟨v, by simpa using h1, h2⟩
theorem IsL.append : ∀ {vs ws : List V} {xs ys : List PV}, IsL K G vs xs → IsL K G ws ys → IsL K G (vs ++ ws) (xs ++ ys)
  | _, _, _, _, .nil, k => k
  | _, _, _, _, .cons h l, k => .cons h (IsL.append l k)
theorem IsL.take : ∀ (n : Nat) {vs : List V} {xs : List PV}, IsL K G vs xs → IsL K G (vs.take n) (xs.take n)
  | 0, _, _, _ => .nil
  | _ + 1, _, _, .nil => .nil
  | n + 1, _, _, .cons h l => .cons h (IsL.take n l)
theorem IsL.drop : ∀ (n : Nat) {vs : List V} {xs : List PV}, IsL K G vs xs → IsL K G (vs.drop n) (xs.drop n)
  | 0, _, _, l => l
  | _ + 1, _, _, .nil => .nil
  | n + 1, _, _, .cons _ l => IsL.drop n l
theorem IsL.set {v : V} {x : PV} (h : Is K G v x) : ∀ (i : Nat) {vs : List V} {xs : List PV}, IsL K G vs xs → IsL K G (vs.set i v) (xs.set i x)
  | _, _, _, .nil => .nil
  | 0, _, _, .cons _ l => .cons h l
  | i + 1, _, _, .cons k l => .cons k (IsL.set h i l)
theorem IsL.ints : ∀ ns : List Int, IsL K G (ns.map V.int) (ns.map PV.int)
  | [] => .nil
  | n :: ns => .cons (.int n) (IsL.ints ns)
theorem strOk_iff {cs : List Nat} : PyData.strOk ⟨cs.toArray⟩ = true ↔ ∀ c ∈ cs, c < 0x110000 := by simp [PyData.strOk]
theorem Is.str' (cs : List Nat) (h : cs.length ≤ sizeLine) (h2 : ∀ c ∈ cs, c < 0x110000) : Is K G (.str ⟨cs.toArray⟩) (.str cs) := .str ⟨cs.toArray⟩ (by simpa [Str.length] using h) (strOk_iff.mpr h2)
theorem Is.str_iff {v : V} {cs : List Nat} (h : Is K G v (.str cs)) : v = .str ⟨cs.toArray⟩ ∧ cs.length ≤ sizeLine ∧ ∀ c ∈ cs, c < 0x110000 := by
  cases h with
  | str x hl h2 => exact ⟨by simp, by simpa [Str.length] using hl, strOk_iff.mp (by simpa using h2)⟩
theorem Is.tup_iff {v : V} {xs : List PV} (h : Is K G v (.tup xs)) : ∃ a vs, v = .ref a ∧ SqT K G a vs ∧ IsL K G vs xs := by
  cases h with
  | tup h l => exact ⟨_, _, rfl, h, l⟩
theorem Is.lst_iff {v : V} {xs : List PV} (h : Is K G v (.lst xs)) : ∃ a vs, v = .ref a ∧ SqL K G a vs ∧ IsL K G vs xs := by
  cases h with
  | lst h l => exact ⟨_, _, rfl, h, l⟩
theorem Is.int_iff {v : V} {i : Int} (h : Is K G v (.int i)) : v = .int i := by cases h; rfl
theorem Is.bl_iff {v : V} {b : Bool} (h : Is K G v (.bl b)) : v = .bl b := by cases h; rfl
theorem Is.non_iff {v : V} (h : Is K G v .non) : v = .non := by cases h; rfl
end

/-- seen from the top: the root in H, what it holds in G -/
inductive Top (K : PySem.W.Frag) (G H : Hp) : V → PV → Prop
  | val {v : V} {x : PV} : Is K G v x → Top K G H v x
  | own {a : Addr} {vs : List V} {xs : List PV} : H a = some (.lst vs) → IsL K G vs xs → Top K G H (.ref a) (.lst xs)
theorem Top.is {K : PySem.W.Frag} {G H : Hp} {v : V} {x : PV} (s : Sub G H) (t : Top K G H v x) : Is K H v x := by
  cases t with
  | val h => exact h.mono s
  | own h l => exact .lst (.of h) (l.mono s)

/-! ### the one mutable thing that all share (the law's draws) -/
structure Rsc where
  kind : Nat
  F : Addr
def Rsc.fp (r : Rsc) : List Addr := [r.F]
/-- what the source of draws holds -/
def shape (k : Nat) (xs : List PV) : Prop := match k with
  | 0 => ∃ (a b c : Int) (ns : List Int), xs = .int a :: .int b :: .int c :: ns.map PV.int ∧ 0 ≤ a ∧ 0 ≤ b ∧ b < 2147483648 ∧ 3 ≤ c ∧ c ≤ 3 + ns.length
  | 1 => ∃ (a : Int) (ns : List Int), xs = [.int a, .lst (ns.map PV.int)]
  | _ => ∃ (a d : Int) (ns : List Int), xs = [.lst (ns.map PV.int), .int a, .int d] ∧ 0 ≤ a
def Rsc.ok (r : Rsc) (K : PySem.W.Frag) (G H : Hp) : Prop := ∃ vs xs, H r.F = some (.lst vs) ∧ IsL K G vs xs ∧ shape r.kind xs
/-- so many draws are left -/
def Rsc.bud (r : Rsc) (n : Nat) (H : Hp) : Prop := r.kind < 2 ∨ ∃ (c d : V) (a : Int), H r.F = some (.lst [c, .int a, d]) ∧ a + n ≤ 2 ^ 60
theorem Rsc.frame {K : PySem.W.Frag} {G G' : Hp} (r : Rsc) (H H' : Hp) (h : ∀ a ∈ r.fp, H' a = H a) (s : Sub G G') (k : r.ok K G H) : r.ok K G' H' := by
  have h1 := h r.F (by simp [Rsc.fp])
  obtain ⟨vs, xs, e, l, q⟩ := k
  exact ⟨vs, xs, by rw [h1]; exact e, l.mono s, q⟩
theorem Rsc.there {K : PySem.W.Frag} {G : Hp} (r : Rsc) (H : Hp) (k : r.ok K G H) : ∀ a ∈ r.fp, H a ≠ none := by
  intro a ha
  have e : a = r.F := by simpa [Rsc.fp] using ha
  obtain ⟨vs, xs, q, _⟩ := k
  rw [e, q]; simp
theorem Rsc.budFrame {r : Rsc} {n : Nat} {H H' : Hp} (h : H' r.F = H r.F) (b : r.bud n H) : r.bud n H' := by
  rcases b with b | ⟨c, d, a, e, l⟩
  · exact .inl b
  · exact .inr ⟨c, d, a, by rw [h]; exact e, l⟩
def Rfp : Option Rsc → List Addr
  | none => []
  | some r => r.fp
def Rok (K : PySem.W.Frag) (R : Option Rsc) (G H : Hp) : Prop := match R with
  | none => True
  | some r => r.ok K G H ∧ ∀ a ∈ r.fp, G a = none
theorem Rok.gnone {K : PySem.W.Frag} {R : Option Rsc} {G H : Hp} (h : Rok K R G H) : ∀ a ∈ Rfp R, G a = none := by
  cases R with
  | none => intro a ha; cases ha
  | some r => exact h.2
theorem Rok.hsome {K : PySem.W.Frag} {R : Option Rsc} {G H : Hp} (h : Rok K R G H) : ∀ a ∈ Rfp R, H a ≠ none := by
  cases R with
  | none => intro a ha; cases ha
  | some r => exact r.there H h.1

/-! ### slots -/
/-- a container owned by a name -/
inductive Ow where
  | lst (xs : List PV)
  | dct (kvs : List (PV × PV))
/-- what a slot holds -/
inductive Sl where
  | un | sh (x : PV) | own (o : Ow) | res (k n : Nat)
def Ow.pv : Ow → PV
  | .lst xs => .lst xs
  | .dct kvs => .dct kvs
def OwnAt (K : PySem.W.Frag) (G H : Hp) (p : Addr) : Ow → Prop
  | .lst xs => ∃ vs, H p = some (.lst vs) ∧ IsL K G vs xs
  | .dct _ => False
theorem OwnAt.top {K : PySem.W.Frag} {G H : Hp} {p : Addr} {o : Ow} (h : OwnAt K G H p o) : Top K G H (.ref p) o.pv := by
  cases o with
  | lst xs => obtain ⟨vs, e, l⟩ := h; exact .own e l
  | dct _ => exact h.elim
theorem OwnAt.some {K : PySem.W.Frag} {G H : Hp} {p : Addr} {o : Ow} (h : OwnAt K G H p o) : H p ≠ none := by
  cases o with
  | lst xs => obtain ⟨vs, e, l⟩ := h; rw [e]; simp
  | dct _ => exact h.elim
theorem OwnAt.keep {K : PySem.W.Frag} {G G' H H' : Hp} {p : Addr} {o : Ow} (h : OwnAt K G H p o) (s : Sub G G') (e : H' p = H p) : OwnAt K G' H' p o := by
  cases o with
  | lst xs => obtain ⟨vs, e1, l⟩ := h; exact ⟨vs, by rw [e, e1], l.mono s⟩
  | dct _ => exact h.elim

/-- the ghosts: the entry's heap, what was frozen then, what is frozen now -/
structure Gh where
  R : Option Rsc
  H0 : Hp
  G0 : Hp
  G : Hp

abbrev Sls := List Sl

structure Rep (K : PySem.W.Frag) (S : Gh) (σ : L2.St) (H : Hp) (ρ : Sls) : Prop where
  gg : Sub S.G0 S.G
  gh : Sub S.G H
  gnew : ∀ a, S.G a ≠ none → S.G0 a ≠ none ∨ S.H0 a = none
  frame : ∀ a o, S.H0 a = some o → a ∉ Rfp S.R → H a = some o
  res : Rok K S.R S.G H
  len : σ.length = ρ.length
  sh : ∀ (i : Nat) (x : PV), ρ[i]? = some (.sh x) → ∃ v, σ[i]? = some (some v) ∧ Is K S.G v x
  own : ∀ (i : Nat) (o : Ow), ρ[i]? = some (.own o) → ∃ p, σ[i]? = some (some (.ref p)) ∧ OwnAt K S.G H p o ∧ S.G p = none ∧ S.H0 p = none ∧ p ∉ Rfp S.R
  sep : ∀ (i j : Nat) (oi oj : Ow) (p : Addr), i ≠ j → ρ[i]? = some (.own oi) → ρ[j]? = some (.own oj) → σ[i]? = some (some (.ref p)) → σ[j]? = some (some (.ref p)) → False
  rsl : ∀ (i k n : Nat), ρ[i]? = some (.res k n) → ∃ r, S.R = some r ∧ r.kind = k ∧ σ[i]? = some (some (.ref r.F)) ∧ r.bud n H

/-- the ghosts only grow -/
structure SLe (S S' : Gh) : Prop where
  R : S'.R = S.R
  H0 : S'.H0 = S.H0
  G0 : S'.G0 = S.G0
  G : Sub S.G S'.G
theorem SLe.refl (S : Gh) : SLe S S := ⟨rfl, rfl, rfl, Sub.refl _⟩
theorem SLe.trans {A B C : Gh} (a : SLe A B) (b : SLe B C) : SLe A C := ⟨b.R.trans a.R, b.H0.trans a.H0, b.G0.trans a.G0, a.G.trans b.G⟩

/-- one step of an expression: the slots stay, what they own may be turned or frozen -/
def Owned (σ : L2.St) (ρ : Sls) (p : Addr) : Prop := ∃ (i : Nat) (o : Ow), ρ[i]? = some (.own o) ∧ σ[i]? = some (some (.ref p))
structure Stp (S : Gh) (σ : L2.St) (H : Hp) (ρ : Sls) (S' : Gh) (H' : Hp) (ρ' : Sls) : Prop where
  le : SLe S S'
  fr : ∀ p o, H p = some o → p ∉ Rfp S.R → ¬ Owned σ ρ p → H' p = some o
  gfr : ∀ p, S'.G p ≠ none → S.G p = none → H p ≠ none → Owned σ ρ p
  mon : ∀ (i : Nat) (o' : Ow), ρ'[i]? = some (.own o') → ∃ o, ρ[i]? = some (.own o)
  st : ∀ p, H p ≠ none → H' p ≠ none
theorem Stp.refl (S : Gh) (σ : L2.St) (H : Hp) (ρ : Sls) : Stp S σ H ρ S H ρ := ⟨SLe.refl S, fun _ _ e _ _ => e, fun _ h1 h2 _ => absurd h2 h1, fun _ o e => ⟨o, e⟩, fun _ h => h⟩
theorem Stp.none {S S' : Gh} {σ : L2.St} {H H' : Hp} {ρ ρ' : Sls} (a : Stp S σ H ρ S' H' ρ') {p : Addr} (h : H' p = Option.none) : H p = Option.none := by
  cases e : H p with
  | none => rfl
  | some u => exact absurd h (a.st p (by rw [e]; simp))
theorem Stp.ownd {S S' : Gh} {σ : L2.St} {H H' : Hp} {ρ ρ' : Sls} (a : Stp S σ H ρ S' H' ρ') {p : Addr} (h : Owned σ ρ' p) : Owned σ ρ p := by
  obtain ⟨i, o, e1, e2⟩ := h
  obtain ⟨o', e⟩ := a.mon i o e1
  exact ⟨i, o', e, e2⟩
theorem Stp.trans {S S1 S2 : Gh} {σ : L2.St} {H H1 H2 : Hp} {ρ ρ1 ρ2 : Sls} (a : Stp S σ H ρ S1 H1 ρ1) (b : Stp S1 σ H1 ρ1 S2 H2 ρ2) : Stp S σ H ρ S2 H2 ρ2 := by
  refine ⟨a.le.trans b.le, fun p o e hr hn => b.fr p o (a.fr p o e hr hn) (by rw [a.le.R]; exact hr) (fun h => hn (a.ownd h)), fun p h1 h2 h3 => ?_, fun i o e => ?_, fun p h => b.st p (a.st p h)⟩
  · cases e : S1.G p with
    | none => exact a.ownd (b.gfr p h1 e (a.st p h3))
    | some u => exact a.gfr p (by rw [e]; simp) h2 h3
  · obtain ⟨o1, e1⟩ := b.mon i o e
    exact a.mon i o1 e1

section
variable {K : PySem.W.Frag} {S : Gh} {σ : L2.St} {H : Hp} {ρ : Sls}

theorem Rep.rslUpd (r : Rep K S σ H ρ) {p : Addr} {o : HO} (hp : H p = none) : ∀ (i k n : Nat), ρ[i]? = some (.res k n) → ∃ r, S.R = some r ∧ r.kind = k ∧ σ[i]? = some (some (.ref r.F)) ∧ r.bud n (upd H p o) := fun i k n e => by
  obtain ⟨q, h1, h2, h3, h4⟩ := r.rsl i k n e
  refine ⟨q, h1, h2, h3, Rsc.budFrame (upd_ne fun z => ?_) h4⟩
  have hm : q.F ∈ Rfp S.R := by rw [h1]; simp [Rfp, Rsc.fp]
  exact r.res.hsome _ hm (by rw [z]; exact hp)
/-- a new object is laid and frozen -/
theorem Rep.freezeNew (r : Rep K S σ H ρ) {p : Addr} {o : HO} (hp : H p = none) : Rep K { S with G := upd S.G p o } σ (upd H p o) ρ ∧ Stp S σ H ρ { S with G := upd S.G p o } (upd H p o) ρ := by
  have hg : S.G p = none := r.gh.ne hp
  have s1 : Sub S.G (upd S.G p o) := Sub.new hg
  have keep : ∀ a, a ≠ p → upd H p o a = H a := fun a ha => upd_ne ha
  refine ⟨⟨r.gg.trans s1, fun a u e => ?_, fun a ha => ?_, fun a u e hn => ?_, ?_, r.len, fun i x e => ?_, fun i q e => ?_, r.sep, fun i k n e => r.rslUpd hp i k n e⟩, ⟨⟨rfl, rfl, rfl, s1⟩, fun q u e _ _ => by rw [upd_ne (ne_of_none e hp)]; exact e, fun q h1 h2 h3 => ?_, fun i o e => ⟨o, e⟩, fun q h => ?_⟩⟩
  rotate_right 2
  · have h1' : upd S.G p o q ≠ none := h1
    by_cases z : q = p
    · subst z; exact absurd hp h3
    · rw [upd_ne z] at h1'; exact absurd h2 h1'
  · by_cases z : q = p
    · subst z; rw [upd_same]; simp
    · rw [upd_ne z]; exact h
  · have e' : upd S.G p o a = some u := e
    by_cases h : a = p
    · subst h; rw [upd_same] at e' ⊢; exact e'
    · rw [upd_ne h] at e' ⊢; exact r.gh a u e'
  · by_cases h : a = p
    · subst h
      right
      cases e : S.H0 a with
      | none => rfl
      | some u =>
        by_cases hm : a ∈ Rfp S.R
        · exact absurd hp (r.res.hsome a hm)
        · rw [r.frame a u e hm] at hp; cases hp
    · exact r.gnew a (by rw [← show (upd S.G p o) a = S.G a from upd_ne h]; exact ha)
  · have := r.frame a u e hn
    rw [upd_ne (ne_of_none this hp)]; exact this
  · cases hR : S.R with
    | none => trivial
    | some q =>
      have hr := r.res
      rw [hR] at hr
      have hne : ∀ a ∈ q.fp, a ≠ p := fun a ha e => q.there H hr.1 a ha (by rw [e]; exact hp)
      exact ⟨q.frame H _ (fun a ha => upd_ne (hne a ha)) s1 hr.1, fun a ha => by show upd S.G p o a = none; rw [upd_ne (hne a ha)]; exact hr.2 a ha⟩
  · obtain ⟨v, e1, e2⟩ := r.sh i x e
    exact ⟨v, e1, e2.mono s1⟩
  · obtain ⟨b, e1, e2, e3, e4, e5⟩ := r.own i q e
    have hne : b ≠ p := fun z => e2.some (by rw [z]; exact hp)
    exact ⟨b, e1, e2.keep s1 (upd_ne hne), by show upd S.G p o b = none; rw [upd_ne hne]; exact e3, e4, e5⟩

/-- the same, the new object not frozen -/
theorem Rep.layNew (r : Rep K S σ H ρ) {p : Addr} {o : HO} (hp : H p = none) : Rep K S σ (upd H p o) ρ ∧ Stp S σ H ρ S (upd H p o) ρ := by
  refine ⟨⟨r.gg, fun a u e => ?_, r.gnew, fun a u e hn => ?_, ?_, r.len, r.sh, fun i q e => ?_, r.sep, fun i k n e => r.rslUpd hp i k n e⟩, ⟨SLe.refl S, fun q u e _ _ => by rw [upd_ne (ne_of_none e hp)]; exact e, fun q h1 h2 h3 => absurd h2 h1, fun i o e => ⟨o, e⟩, fun q h => ?_⟩⟩
  rotate_right
  · by_cases z : q = p
    · subst z; rw [upd_same]; simp
    · rw [upd_ne z]; exact h
  · rw [upd_ne (ne_of_none (r.gh a u e) hp)]; exact r.gh a u e
  · have := r.frame a u e hn
    rw [upd_ne (ne_of_none this hp)]; exact this
  · cases hR : S.R with
    | none => trivial
    | some q =>
      have hr := r.res
      rw [hR] at hr
      have hne : ∀ a ∈ q.fp, a ≠ p := fun a ha e => q.there H hr.1 a ha (by rw [e]; exact hp)
      exact ⟨q.frame H _ (fun a ha => upd_ne (hne a ha)) (Sub.refl _) hr.1, hr.2⟩
  · obtain ⟨b, e1, e2, e3, e4, e5⟩ := r.own i q e
    have hne : b ≠ p := fun z => e2.some (by rw [z]; exact hp)
    exact ⟨b, e1, e2.keep (Sub.refl _) (upd_ne hne), e3, e4, e5⟩

/-- what is new to the heap is new to all -/
theorem Rep.new0 (r : Rep K S σ H ρ) {p : Addr} (hp : H p = none) : S.G p = none ∧ S.H0 p = none ∧ p ∉ Rfp S.R ∧ ∀ (i : Nat) (o : Ow), ρ[i]? = some (.own o) → σ[i]? ≠ some (some (.ref p)) := by
  refine ⟨r.gh.ne hp, ?_, fun hm => r.res.hsome p hm hp, fun i o e q => ?_⟩
  · cases e : S.H0 p with
    | none => rfl
    | some u =>
      by_cases hm : p ∈ Rfp S.R
      · exact absurd hp (r.res.hsome p hm)
      · rw [r.frame p u e hm] at hp; cases hp
  · obtain ⟨b, e1, e2, _⟩ := r.own i o e
    rw [e1] at q
    injection q with q; injection q with q; injection q with q
    exact e2.some (by rw [q]; exact hp)
end
end NL

/-! NL2: what an expression is worth. -/
namespace NL
open PySem PySem.Spec PyProof.Rows L2

/-! ### tops -/
section
variable {K : PySem.W.Frag} {G H : Hp}
theorem Top.str_iff {v : V} {cs : List Nat} (h : Top K G H v (.str cs)) : v = .str ⟨cs.toArray⟩ ∧ cs.length ≤ sizeLine ∧ ∀ c ∈ cs, c < 0x110000 := by
  cases h with
  | val h => exact h.str_iff
theorem Top.int_iff {v : V} {i : Int} (h : Top K G H v (.int i)) : v = .int i := by
  cases h with
  | val h => exact h.int_iff
theorem Top.bl_iff {v : V} {i : Bool} (h : Top K G H v (.bl i)) : v = .bl i := by
  cases h with
  | val h => exact h.bl_iff
theorem Top.non_iff {v : V} (h : Top K G H v .non) : v = .non := by
  cases h with
  | val h => exact h.non_iff
theorem Top.tup_iff {v : V} {xs : List PV} (s : Sub G H) (h : Top K G H v (.tup xs)) : ∃ a vs, v = .ref a ∧ SqT K H a vs ∧ IsL K G vs xs := by
  cases h with
  | val h => obtain ⟨a, vs, e, q, l⟩ := h.tup_iff; exact ⟨a, vs, e, s.sqt q, l⟩
theorem Top.lst_iff {v : V} {xs : List PV} (s : Sub G H) (h : Top K G H v (.lst xs)) : ∃ a vs, v = .ref a ∧ SqL K H a vs ∧ IsL K G vs xs := by
  cases h with
  | val h => obtain ⟨a, vs, e, q, l⟩ := h.lst_iff; exact ⟨a, vs, e, s.sql q, l⟩
  | own h l => exact ⟨_, _, rfl, .of h, l⟩
inductive TopL (K : PySem.W.Frag) (G H : Hp) : List V → List PV → Prop
  | nil : TopL K G H [] []
  | cons {v : V} {x : PV} {vs : List V} {xs : List PV} : Top K G H v x → TopL K G H vs xs → TopL K G H (v :: vs) (x :: xs)
end

/-! ### worth -/
/-- a frozen value, or what the i-th slot owns -/
inductive Res where
  | sh (x : PV) | at (i : Nat)
def val (ρ : Sls) : Res → Option PV
  | .sh x => some x
  | .at i => match ρ[i]? with
    | some (.own o) => some o.pv
    | _ => none
@[simp] theorem val_sh (ρ : Sls) (x : PV) : val ρ (.sh x) = some x := rfl
def ResAt (K : PySem.W.Frag) (S : Gh) (σ : L2.St) (v : V) : Res → Prop
  | .sh x => Is K S.G v x
  | .at i => σ[i]? = some (some v)
theorem ResAt.fz {K : PySem.W.Frag} {S : Gh} {σ : L2.St} {v : V} {x : PV} (h : Is K S.G v x) : ResAt K S σ v (.sh x) := h
theorem ResAt.slot {K : PySem.W.Frag} {S : Gh} {σ : L2.St} {v : V} {i : Nat} (h : σ[i]? = some (some v)) : ResAt K S σ v (.at i) := h
theorem ResAt.mono {K : PySem.W.Frag} {S S' : Gh} {σ : L2.St} {v : V} {r : Res} (h : ResAt K S σ v r) (s : SLe S S') : ResAt K S' σ v r := by
  cases r with
  | sh x => exact Is.mono s.G h
  | «at» i => exact h
theorem ResAt.top {K : PySem.W.Frag} {S : Gh} {σ : L2.St} {H : Hp} {ρ : Sls} {v : V} {r : Res} {x : PV} (R : Rep K S σ H ρ) (h : ResAt K S σ v r) (e : val ρ r = some x) : Top K S.G H v x := by
  cases r with
  | sh y =>
    cases (Option.some.inj (show some y = some x from e))
    exact .val h
  | «at» i =>
    unfold val at e
    dsimp only at e
    split at e
    · rename_i o q
      cases (Option.some.inj e)
      obtain ⟨p, e1, e2, _⟩ := R.own i o q
      have h' : σ[i]? = some (some v) := h
      rw [e1] at h'
      cases (Option.some.inj (Option.some.inj h'))
      exact e2.top
    · cases e
inductive ResL (K : PySem.W.Frag) (S : Gh) (σ : L2.St) : List V → List Res → Prop
  | nil : ResL K S σ [] []
  | cons {v : V} {r : Res} {vs : List V} {rs : List Res} : ResAt K S σ v r → ResL K S σ vs rs → ResL K S σ (v :: vs) (r :: rs)
def vals (ρ : Sls) : List Res → Option (List PV)
  | [] => some []
  | r :: rs => match val ρ r, vals ρ rs with
    | some x, some xs => some (x :: xs)
    | _, _ => none
theorem ResL.mono {K : PySem.W.Frag} {S S' : Gh} {σ : L2.St} (s : SLe S S') : ∀ {vs : List V} {rs : List Res}, ResL K S σ vs rs → ResL K S' σ vs rs
  | _, _, .nil => .nil
  | _, _, .cons h l => .cons (h.mono s) (ResL.mono s l)
theorem ResL.top {K : PySem.W.Frag} {S : Gh} {σ : L2.St} {H : Hp} {ρ : Sls} (R : Rep K S σ H ρ) : ∀ {vs : List V} {rs : List Res} {xs : List PV}, ResL K S σ vs rs → vals ρ rs = some xs → TopL K S.G H vs xs
  | _, _, _, .nil, e => by cases (Option.some.inj (show some [] = some _ from e)); exact .nil
  | _, r :: rs, _, .cons h l, e => by
    unfold vals at e
    split at e
    · rename_i x xs h1 h2
      cases (Option.some.inj e)
      exact .cons (h.top R h1) (ResL.top R l h2)
    · cases e

/-- a partial step: nothing follows from none -/
def oB {α : Type} (o : Option α) (k : α → Prop) : Prop := match o with
  | some a => k a
  | none => False
@[simp] theorem oB_some {α : Type} (a : α) (k : α → Prop) : oB (some a) k = k a := rfl
@[simp] theorem oB_none {α : Type} (k : α → Prop) : oB (none : Option α) k = False := rfl
theorem oB_ex {α : Type} {o : Option α} {k : α → Prop} (h : oB o k) : ∃ a, o = some a ∧ k a := by
  cases o with
  | none => exact h.elim
  | some a => exact ⟨a, rfl, h⟩
theorem oB_of {α : Type} {o : Option α} {k : α → Prop} {a : α} (e : o = some a) (h : k a) : oB o k := by rw [e]; exact h

abbrev WE := Sls → (Res → Sls → Prop) → Prop
abbrev WT := Sls → (Bool → Sls → Prop) → Prop
abbrev WA := Sls → (List Res → Sls → Prop) → Prop
/-- a new container -/
abbrev WF := Sls → (Ow → Sls → Prop) → Prop

def FreshAt (S : Gh) (σ : L2.St) (ρ : Sls) (p : Addr) : Prop := S.G p = none ∧ S.H0 p = none ∧ p ∉ Rfp S.R ∧ ∀ (i : Nat) (o : Ow), ρ[i]? = some (.own o) → σ[i]? ≠ some (some (.ref p))

def RdE (K : PySem.W.Frag) (t : TE) (w : WE) : Prop := ∀ (S : Gh) (σ : L2.St) (H : Hp) (ρ : Sls) (Q : VK) (post : Res → Sls → Prop), Rep K S σ H ρ → w ρ post →
  (∀ S' H' v r ρ', Rep K S' σ H' ρ' → Stp S σ H ρ S' H' ρ' → ResAt K S' σ v r → post r ρ' → Q v H') → t σ H Q
def RdT (K : PySem.W.Frag) (t : TT) (w : WT) : Prop := ∀ (S : Gh) (σ : L2.St) (H : Hp) (ρ : Sls) (Q : Bool → Hp → Prop) (post : Bool → Sls → Prop), Rep K S σ H ρ → w ρ post →
  (∀ S' H' b ρ', Rep K S' σ H' ρ' → Stp S σ H ρ S' H' ρ' → post b ρ' → Q b H') → t σ H Q
def RdA (K : PySem.W.Frag) (t : TA) (w : WA) : Prop := ∀ (S : Gh) (σ : L2.St) (H : Hp) (ρ : Sls) (Q : List V → Hp → Prop) (post : List Res → Sls → Prop), Rep K S σ H ρ → w ρ post →
  (∀ S' H' vs rs ρ', Rep K S' σ H' ρ' → Stp S σ H ρ S' H' ρ' → ResL K S' σ vs rs → post rs ρ' → Q vs H') → t σ H Q
def RdF (K : PySem.W.Frag) (t : TE) (w : WF) : Prop := ∀ (S : Gh) (σ : L2.St) (H : Hp) (ρ : Sls) (Q : VK) (post : Ow → Sls → Prop), Rep K S σ H ρ → w ρ post →
  (∀ S' H' p o ρ', Rep K S' σ H' ρ' → Stp S σ H ρ S' H' ρ' → OwnAt K S'.G H' p o → FreshAt S' σ ρ' p → H p = none → post o ρ' → Q (.ref p) H') → t σ H Q
structure EW (X : Cx) (e : Expr) (w : WE) : Prop where
  ex : ∃ t, PE X e t ∧ RdE X.K t w
structure TW (X : Cx) (e : Expr) (w : WT) : Prop where
  ex : ∃ t, PT X e t ∧ RdT X.K t w
structure AW (X : Cx) (es : List Expr) (w : WA) : Prop where
  ex : ∃ t, PA X es t ∧ RdA X.K t w
structure EF (X : Cx) (e : Expr) (w : WF) : Prop where
  ex : ∃ t, PE X e t ∧ RdF X.K t w

/-! ### names, constants -/
def wVar (i : Nat) : WE := fun ρ post => match ρ[i]? with
  | some (.sh x) => post (.sh x) ρ
  | some (.own _) => post (.at i) ρ
  | some (.res _ _) => post (.at i) ρ
  | _ => False
theorem rd_var {K : PySem.W.Frag} (i : Nat) : RdE K (tVar i) (wVar i) := by
  intro S σ H ρ Q post R h k
  unfold wVar at h
  split at h
  · rename_i x e
    obtain ⟨v, e1, e2⟩ := R.sh i x e
    exact ⟨v, e1, k S H v _ ρ R (Stp.refl S σ H ρ) (.fz e2) h⟩
  · rename_i o e
    obtain ⟨p, e1, _⟩ := R.own i o e
    exact ⟨_, e1, k S H _ _ ρ R (Stp.refl S σ H ρ) (.slot e1) h⟩
  · rename_i e
    obtain ⟨q, _, _, e1, _⟩ := R.rsl i _ _ e
    exact ⟨_, e1, k S H _ _ ρ R (Stp.refl S σ H ρ) (.slot e1) h⟩
  · exact h.elim
def wC (x : PV) : WE := fun ρ post => post (.sh x) ρ
theorem rd_c {K : PySem.W.Frag} {v : V} {x : PV} (h : ∀ G, Is K G v x) : RdE K (tC v) (wC x) := fun S σ H ρ Q post R h1 k => k S H v _ ρ R (Stp.refl S σ H ρ) (.fz (h _)) h1

section
variable {X : Cx} {e a b c : Expr} {pos : Pos}
theorem ev (i : Nat) {x : Str} (hN : X.N[i]? = some x := by rfl) (hv : Vis X.env.scope x := by first | exact Or.inl rfl | exact Or.inr (Or.inl rfl) | exact Or.inr (Or.inr rfl)) (hd : (x == ("__debug__" : Str)) = false := by decide)
    (hcd : (x == ("__classdict__" : Str)) = false := by decide) : EW X (.Name x pos) (wVar i) := ⟨_, pe_var hN hv hd hcd, rd_var i⟩
theorem ew_int {i : Int} {j} : EW X (.Constant (.int i) j pos) (wC (.int i)) := ⟨_, pe_int, rd_c fun _ => .int i⟩
theorem ew_bl {b : Bool} {j} : EW X (.Constant (.bool b) j pos) (wC (.bl b)) := ⟨_, pe_bl, rd_c fun _ => .bl b⟩
theorem ew_non {j} : EW X (.Constant .none j pos) (wC .non) := ⟨_, pe_non, rd_c fun _ => .non⟩
theorem ew_str {x : Str} {j} (cs : List Nat) (hx : x = ⟨cs.toArray⟩ := by decide +kernel) (h : cs.length ≤ 100000 := by decide) (h2 : (cs.all fun c => decide (c < 0x110000)) = true := by decide) : EW X (.Constant (.str x) j pos) (wC (.str cs)) :=
  ⟨_, pe_str, rd_c fun _ => by
    subst hx
    exact Is.str' cs (Nat.le_trans h (by rw [sizeLine_eq]; decide)) (fun c hc => by simpa using List.all_eq_true.mp h2 c hc)⟩
theorem ew_glob {x : Str} {v : V} {u : Value} {y : PV} (hg : Gl X x) (hm : X.mg x = some u) (r : RelV v u) (h : ∀ G, Is X.K G v y) (hd : (x == ("__debug__" : Str)) = false := by decide) : EW X (.Name x pos) (wC y) := ⟨_, pe_glob hg hm r hd, rd_c h⟩

/-! ### operators -/
/-- a two-place operation on trees -/
structure OpW (X : Cx) (f : Value → Value → Sem Value) (g : PV → PV → Option PV) : Prop where
  ex : ∃ r : R2, OpR X f r ∧ ∀ (S : Gh) (σ : L2.St) (H : Hp) (ρ : Sls) (x y : PV) (v u : V) (z : PV) (Q : VK), Rep X.K S σ H ρ → Top X.K S.G H v x → Top X.K S.G H u y → g x y = some z →
    (∀ S' H' v', Rep X.K S' σ H' ρ → Stp S σ H ρ S' H' ρ → Is X.K S'.G v' z → Q v' H') → r v u H Q
def wOp (g : PV → PV → Option PV) (wa wb : WE) : WE := fun ρ post => wa ρ fun r1 ρ1 => wb ρ1 fun r2 ρ2 => oB (val ρ2 r1) fun x => oB (val ρ2 r2) fun y => oB (g x y) fun z => post (.sh z) ρ2
theorem rd_op {r : R2} {g : PV → PV → Option PV} {ta tb : TE} {wa wb : WE} {K : PySem.W.Frag} (ha : RdE K ta wa) (hb : RdE K tb wb)
    (hr : ∀ (S : Gh) (σ : L2.St) (H : Hp) (ρ : Sls) (x y : PV) (v u : V) (z : PV) (Q : VK), Rep K S σ H ρ → Top K S.G H v x → Top K S.G H u y → g x y = some z → (∀ S' H' v', Rep K S' σ H' ρ → Stp S σ H ρ S' H' ρ → Is K S'.G v' z → Q v' H') → r v u H Q) :
    RdE K (tOp r ta tb) (wOp g wa wb) := by
  intro S σ H ρ Q post R h k
  refine ha S σ H ρ _ _ R h fun S1 H1 v1 r1 ρ1 R1 s1 e1 h1 => ?_
  refine hb S1 σ H1 ρ1 _ _ R1 h1 fun S2 H2 v2 r2 ρ2 R2 s2 e2 h2 => ?_
  obtain ⟨x, ex, h2⟩ := oB_ex h2
  obtain ⟨y, ey, h2⟩ := oB_ex h2
  obtain ⟨z, ez, h2⟩ := oB_ex h2
  exact hr S2 σ H2 ρ2 x y v1 v2 z Q R2 ((e1.mono s2.le).top R2 ex) (e2.top R2 ey) ez fun S3 H3 v3 R3 s3 e3 => k S3 H3 v3 _ ρ2 R3 (s1.trans (s2.trans s3)) (.fz e3) h2
theorem ew_op {op : Operator} {g : PV → PV → Option PV} {wa wb : WE} (ho : OpW X (binaryOp op) g) (ha : EW X a wa) (hb : EW X b wb) : EW X (.BinOp a op b pos) (wOp g wa wb) := by
  obtain ⟨r, h1, h2⟩ := ho.ex
  obtain ⟨ta, a1, a2⟩ := ha.ex
  obtain ⟨tb, b1, b2⟩ := hb.ex
  exact ⟨_, pe_op h1 a1 b1, rd_op a2 b2 h2⟩
theorem ew_cmp {op : CmpOp} {g : PV → PV → Option PV} {wa wb : WE} (ho : OpW X (compareOp op) g) (ha : EW X a wa) (hb : EW X b wb) (hm : behindInMarks op b = false := by first | exact nomark _ | rfl | with_unfolding_all rfl) : EW X (.Compare a [op] [b] pos) (wOp g wa wb) := by
  obtain ⟨r, h1, h2⟩ := ho.ex
  obtain ⟨ta, a1, a2⟩ := ha.ex
  obtain ⟨tb, b1, b2⟩ := hb.ex
  exact ⟨_, pe_cmpR h1 a1 b1 hm, rd_op a2 b2 h2⟩
/-- a bool as a test -/
def wTest (w : WE) : WT := fun ρ post => w ρ fun r ρ1 => match r with
  | .sh (.bl b) => post b ρ1
  | _ => False
theorem rd_test {K : PySem.W.Frag} {t : TE} {w : WE} (h : RdE K t w) : RdT K (tTest t) (wTest w) := by
  intro S σ H ρ Q post R hw k
  refine h S σ H ρ _ _ R hw fun S1 H1 v1 r1 ρ1 R1 s1 e1 h1 => ?_
  cases r1 with
  | «at» i => exact h1.elim
  | sh x =>
    cases x with
    | bl b =>
      have e : v1 = .bl b := Is.bl_iff e1
      exact ⟨b, e, k S1 H1 b ρ1 R1 s1 h1⟩
    | _ => exact h1.elim
theorem tw_cmp {op : CmpOp} {g : PV → PV → Option PV} {wa wb : WE} (ho : OpW X (compareOp op) g) (ha : EW X a wa) (hb : EW X b wb) (hm : behindInMarks op b = false := by first | exact nomark _ | rfl | with_unfolding_all rfl) : TW X (.Compare a [op] [b] pos) (wTest (wOp g wa wb)) := by
  obtain ⟨r, h1, h2⟩ := ho.ex
  obtain ⟨ta, a1, a2⟩ := ha.ex
  obtain ⟨tb, b1, b2⟩ := hb.ex
  exact ⟨_, pt_cmpR h1 a1 b1 hm, rd_test (rd_op a2 b2 h2)⟩
/-- a op b op' c -/
def wChain (g g' : PV → PV → Option PV) (wa wb wc : WE) : WE := fun ρ post => wa ρ fun r1 ρ1 => wb ρ1 fun r2 ρ2 => oB (val ρ2 r1) fun x => oB (val ρ2 r2) fun y => oB (g x y) fun z => match z with
  | .bl b => if b = true then wc ρ2 fun r3 ρ3 => oB (val ρ3 r2) fun y => oB (val ρ3 r3) fun x3 => oB (g' y x3) fun z => post (.sh z) ρ3 else post (.sh (.bl false)) ρ2
  | _ => False
theorem rd_chain {r r' : R2} {g g' : PV → PV → Option PV} {ta tb tc : TE} {wa wb wc : WE} {K : PySem.W.Frag} (ha : RdE K ta wa) (hb : RdE K tb wb) (hc : RdE K tc wc)
    (hr : ∀ (S : Gh) (σ : L2.St) (H : Hp) (ρ : Sls) (x y : PV) (v u : V) (z : PV) (Q : VK), Rep K S σ H ρ → Top K S.G H v x → Top K S.G H u y → g x y = some z → (∀ S' H' v', Rep K S' σ H' ρ → Stp S σ H ρ S' H' ρ → Is K S'.G v' z → Q v' H') → r v u H Q)
    (hr' : ∀ (S : Gh) (σ : L2.St) (H : Hp) (ρ : Sls) (x y : PV) (v u : V) (z : PV) (Q : VK), Rep K S σ H ρ → Top K S.G H v x → Top K S.G H u y → g' x y = some z → (∀ S' H' v', Rep K S' σ H' ρ → Stp S σ H ρ S' H' ρ → Is K S'.G v' z → Q v' H') → r' v u H Q) :
    RdE K (tChain r r' ta tb tc) (wChain g g' wa wb wc) := by
  intro S σ H ρ Q post R h k
  refine ha S σ H ρ _ _ R h fun S1 H1 v1 r1 ρ1 R1 s1 e1 h1 => ?_
  refine hb S1 σ H1 ρ1 _ _ R1 h1 fun S2 H2 v2 r2 ρ2 R2 s2 e2 h2 => ?_
  obtain ⟨x, ex, h2⟩ := oB_ex h2
  obtain ⟨y, ey, h2⟩ := oB_ex h2
  obtain ⟨z, ez, h2⟩ := oB_ex h2
  refine hr S2 σ H2 ρ2 x y v1 v2 z _ R2 ((e1.mono s2.le).top R2 ex) (e2.top R2 ey) ez fun S3 H3 v3 R3 s3 e3 => ?_
  cases z with
  | bl q =>
    refine ⟨q, e3.bl_iff, ?_⟩
    cases q with
    | false =>
      rw [if_neg Bool.false_ne_true]
      exact k S3 H3 _ _ ρ2 R3 (s1.trans (s2.trans s3)) (.fz (.bl false)) h2
    | true =>
      rw [if_pos rfl]
      refine hc S3 σ H3 ρ2 _ _ R3 h2 fun S4 H4 v4 r4 ρ4 R4 s4 e4 h4 => ?_
      obtain ⟨y', ey', h4⟩ := oB_ex h4
      obtain ⟨x3, ex3, h4⟩ := oB_ex h4
      obtain ⟨z', ez', h4⟩ := oB_ex h4
      exact hr' S4 σ H4 ρ4 y' x3 v2 v4 z' Q R4 ((e2.mono (s3.trans s4).le).top R4 ey') (e4.top R4 ex3) ez' fun S5 H5 v5 R5 s5 e5 => k S5 H5 v5 _ ρ4 R5 (s1.trans (s2.trans (s3.trans (s4.trans s5)))) (.fz e5) h4
  | _ => exact h2.elim
theorem ew_chain {op op' : CmpOp} {g g' : PV → PV → Option PV} {wa wb wc : WE} (ho : OpW X (compareOp op) g) (ho' : OpW X (compareOp op') g') (ha : EW X a wa) (hb : EW X b wb) (hc : EW X c wc)
    (hm : lastMarks [op, op'] [b, c] = false := by with_unfolding_all rfl) : EW X (.Compare a [op, op'] [b, c] pos) (wChain g g' wa wb wc) := by
  obtain ⟨r, h1, h2⟩ := ho.ex
  obtain ⟨r', h1', h2'⟩ := ho'.ex
  obtain ⟨ta, a1, a2⟩ := ha.ex
  obtain ⟨tb, b1, b2⟩ := hb.ex
  obtain ⟨tc, c1, c2⟩ := hc.ex
  exact ⟨_, pe_chain h1 h1' a1 b1 c1 hm, rd_chain a2 b2 c2 h2 h2'⟩
theorem tw_chain {op op' : CmpOp} {g g' : PV → PV → Option PV} {wa wb wc : WE} (ho : OpW X (compareOp op) g) (ho' : OpW X (compareOp op') g') (ha : EW X a wa) (hb : EW X b wb) (hc : EW X c wc)
    (hm : lastMarks [op, op'] [b, c] = false := by with_unfolding_all rfl) : TW X (.Compare a [op, op'] [b, c] pos) (wTest (wChain g g' wa wb wc)) := by
  obtain ⟨r, h1, h2⟩ := ho.ex
  obtain ⟨r', h1', h2'⟩ := ho'.ex
  obtain ⟨ta, a1, a2⟩ := ha.ex
  obtain ⟨tb, b1, b2⟩ := hb.ex
  obtain ⟨tc, c1, c2⟩ := hc.ex
  exact ⟨_, pt_chain h1 h1' a1 b1 c1 hm, rd_test (rd_chain a2 b2 c2 h2 h2')⟩
/-- a one-place operation -/
structure UnW (X : Cx) (f : Value → Sem Value) (g : PV → Option PV) : Prop where
  ex : ∃ r : V → Hp → VK → Prop, UnR X f r ∧ ∀ (S : Gh) (σ : L2.St) (H : Hp) (ρ : Sls) (x : PV) (v : V) (z : PV) (Q : VK), Rep X.K S σ H ρ → Top X.K S.G H v x → g x = some z →
    (∀ S' H' v', Rep X.K S' σ H' ρ → Stp S σ H ρ S' H' ρ → Is X.K S'.G v' z → Q v' H') → r v H Q
def wUn (g : PV → Option PV) (wa : WE) : WE := fun ρ post => wa ρ fun r1 ρ1 => oB (val ρ1 r1) fun x => oB (g x) fun z => post (.sh z) ρ1
theorem ew_un {op : UnaryOp} {g : PV → Option PV} {wa : WE} (ho : UnW X (unaryOp op) g) (ha : EW X a wa) : EW X (.UnaryOp op a pos) (wUn g wa) := by
  obtain ⟨r, h1, h2⟩ := ho.ex
  obtain ⟨ta, a1, a2⟩ := ha.ex
  refine ⟨_, pe_un h1 a1, fun S σ H ρ Q post R h k => ?_⟩
  refine a2 S σ H ρ _ _ R h fun S1 H1 v1 r1 ρ1 R1 s1 e1 h1 => ?_
  obtain ⟨x, ex, h1⟩ := oB_ex h1
  obtain ⟨z, ez, h1⟩ := oB_ex h1
  exact h2 S1 σ H1 ρ1 x v1 z Q R1 (e1.top R1 ex) ez fun S2 H2 v2 R2 s2 e2 => k S2 H2 v2 _ ρ1 R2 (s1.trans s2) (.fz e2) h1

/-! ### and, or, not, if -/
def wAnd (wa wb : WE) : WE := fun ρ post => wa ρ fun r1 ρ1 => match r1 with
  | .sh (.bl b) => if b = true then wb ρ1 post else post (.sh (.bl false)) ρ1
  | _ => False
def wOr (wa wb : WE) : WE := fun ρ post => wa ρ fun r1 ρ1 => match r1 with
  | .sh (.bl b) => if b = true then post (.sh (.bl true)) ρ1 else wb ρ1 post
  | _ => False
def wNot (wa : WE) : WE := fun ρ post => wa ρ fun r1 ρ1 => match r1 with
  | .sh (.bl b) => post (.sh (.bl (!b))) ρ1
  | _ => False
theorem ew_one {op : BoolOp} {w : WE} (h : EW X a w) : EW X (.BoolOp op [a] pos) w := by
  obtain ⟨t, h1, h2⟩ := h.ex
  exact ⟨t, pe_one h1, h2⟩
theorem ew_and {rest : List Expr} {wa wb : WE} (ha : EW X a wa) (hb : EW X (.BoolOp .And (b :: rest) pos) wb) : EW X (.BoolOp .And (a :: b :: rest) pos) (wAnd wa wb) := by
  obtain ⟨ta, a1, a2⟩ := ha.ex
  obtain ⟨tb, b1, b2⟩ := hb.ex
  refine ⟨_, pe_and a1 b1, fun S σ H ρ Q post R h k => ?_⟩
  refine a2 S σ H ρ _ _ R h fun S1 H1 v1 r1 ρ1 R1 s1 e1 h1 => ?_
  cases r1 with
  | «at» i => exact h1.elim
  | sh x =>
    cases x with
    | bl q =>
      refine ⟨q, Is.bl_iff e1, ?_⟩
      cases q with
      | true =>
        rw [if_pos rfl]
        exact b2 S1 σ H1 ρ1 _ _ R1 h1 fun S2 H2 v2 r2 ρ2 R2 s2 e2 h2 => k S2 H2 v2 r2 ρ2 R2 (s1.trans s2) e2 h2
      | false =>
        rw [if_neg Bool.false_ne_true]
        exact k S1 H1 _ _ ρ1 R1 s1 (.fz (.bl false)) h1
    | _ => exact h1.elim
theorem ew_or {rest : List Expr} {wa wb : WE} (ha : EW X a wa) (hb : EW X (.BoolOp .Or (b :: rest) pos) wb) : EW X (.BoolOp .Or (a :: b :: rest) pos) (wOr wa wb) := by
  obtain ⟨ta, a1, a2⟩ := ha.ex
  obtain ⟨tb, b1, b2⟩ := hb.ex
  refine ⟨_, pe_or a1 b1, fun S σ H ρ Q post R h k => ?_⟩
  refine a2 S σ H ρ _ _ R h fun S1 H1 v1 r1 ρ1 R1 s1 e1 h1 => ?_
  cases r1 with
  | «at» i => exact h1.elim
  | sh x =>
    cases x with
    | bl q =>
      refine ⟨q, Is.bl_iff e1, ?_⟩
      cases q with
      | true =>
        rw [if_pos rfl]
        exact k S1 H1 _ _ ρ1 R1 s1 (.fz (.bl true)) h1
      | false =>
        rw [if_neg Bool.false_ne_true]
        exact b2 S1 σ H1 ρ1 _ _ R1 h1 fun S2 H2 v2 r2 ρ2 R2 s2 e2 h2 => k S2 H2 v2 r2 ρ2 R2 (s1.trans s2) e2 h2
    | _ => exact h1.elim
theorem ew_not {wa : WE} (ha : EW X a wa) : EW X (.UnaryOp .Not a pos) (wNot wa) := by
  obtain ⟨ta, a1, a2⟩ := ha.ex
  refine ⟨_, pe_not a1, fun S σ H ρ Q post R h k => ?_⟩
  refine a2 S σ H ρ _ _ R h fun S1 H1 v1 r1 ρ1 R1 s1 e1 h1 => ?_
  cases r1 with
  | «at» i => exact h1.elim
  | sh x =>
    cases x with
    | bl q => exact ⟨q, Is.bl_iff e1, k S1 H1 _ _ ρ1 R1 s1 (.fz (.bl _)) h1⟩
    | _ => exact h1.elim
/-- as tests -/
def wAndT (wa wb : WT) : WT := fun ρ post => wa ρ fun b ρ1 => if b = true then wb ρ1 post else post false ρ1
def wOrT (wa wb : WT) : WT := fun ρ post => wa ρ fun b ρ1 => if b = true then post true ρ1 else wb ρ1 post
def wNotT (wa : WT) : WT := fun ρ post => wa ρ fun b ρ1 => post (!b) ρ1
/-- a test as a link of a chain of and, or -/
structure LW (X : Cx) (e : Expr) (w : WT) : Prop where
  ex : ∃ t, PW X e t ∧ RdT X.K t w
theorem LW.tw {w : WT} (h : LW X e w) : TW X e w := by
  obtain ⟨t, h1, h2⟩ := h.ex
  exact ⟨t, h1.pt, h2⟩
theorem lw_and1 {wa : WT} (ha : TW X a wa) : LW X (.BoolOp .And [a] pos) wa := by
  obtain ⟨t, h1, h2⟩ := ha.ex
  exact ⟨t, pw_and1 h1, h2⟩
theorem lw_or1 {wa : WT} (ha : TW X a wa) : LW X (.BoolOp .Or [a] pos) wa := by
  obtain ⟨t, h1, h2⟩ := ha.ex
  exact ⟨t, pw_or1 h1, h2⟩
theorem lw_and {rest : List Expr} {wa wb : WT} (ha : TW X a wa) (hb : LW X (.BoolOp .And (b :: rest) pos) wb) : LW X (.BoolOp .And (a :: b :: rest) pos) (wAndT wa wb) := by
  obtain ⟨ta, a1, a2⟩ := ha.ex
  obtain ⟨tb, b1, b2⟩ := hb.ex
  refine ⟨_, pw_and a1 b1, fun S σ H ρ Q post R h k => ?_⟩
  refine a2 S σ H ρ _ _ R h fun S1 H1 q ρ1 R1 s1 h1 => ?_
  cases q with
  | true => exact b2 S1 σ H1 ρ1 _ _ R1 h1 fun S2 H2 q ρ2 R2 s2 h2 => k S2 H2 q ρ2 R2 (s1.trans s2) h2
  | false => exact k S1 H1 false ρ1 R1 s1 h1
theorem lw_or {rest : List Expr} {wa wb : WT} (ha : TW X a wa) (hb : LW X (.BoolOp .Or (b :: rest) pos) wb) : LW X (.BoolOp .Or (a :: b :: rest) pos) (wOrT wa wb) := by
  obtain ⟨ta, a1, a2⟩ := ha.ex
  obtain ⟨tb, b1, b2⟩ := hb.ex
  refine ⟨_, pw_or a1 b1, fun S σ H ρ Q post R h k => ?_⟩
  refine a2 S σ H ρ _ _ R h fun S1 H1 q ρ1 R1 s1 h1 => ?_
  cases q with
  | false => exact b2 S1 σ H1 ρ1 _ _ R1 h1 fun S2 H2 q ρ2 R2 s2 h2 => k S2 H2 q ρ2 R2 (s1.trans s2) h2
  | true => exact k S1 H1 true ρ1 R1 s1 h1
theorem tw_not {wa : WT} (ha : TW X a wa) : TW X (.UnaryOp .Not a pos) (wNotT wa) := by
  obtain ⟨ta, a1, a2⟩ := ha.ex
  refine ⟨_, pt_not a1, fun S σ H ρ Q post R h k => ?_⟩
  exact a2 S σ H ρ _ _ R h fun S1 H1 q ρ1 R1 s1 h1 => k S1 H1 _ ρ1 R1 s1 h1
/-- any bool expression as a test (a name, a call, a subscript) -/
theorem tw_val {w : WE} (h : EW X e w) (he : ∀ whole, isTrue e X.env whole = (do let v ← whole; standAt e.pos; holding [v] (truthy v)) := by intro _; rfl) : TW X e (wTest w) := by
  obtain ⟨t, h1, h2⟩ := h.ex
  refine ⟨_, pt_truth h1 he, fun S σ H ρ Q post R hw k => ?_⟩
  refine h2 S σ H ρ _ _ R hw fun S1 H1 v1 r1 ρ1 R1 s1 e1 h1 => ?_
  cases r1 with
  | «at» i => exact h1.elim
  | sh x =>
    cases x with
    | bl b =>
      have e : v1 = .bl b := Is.bl_iff e1
      subst e
      exact ⟨b, rfl, k S1 H1 b ρ1 R1 s1 h1⟩
    | _ => exact h1.elim
def wIf (wt : WT) (wa wb : WE) : WE := fun ρ post => wt ρ fun b ρ1 => if b = true then wa ρ1 post else wb ρ1 post
theorem ew_if {wt : WT} {wa wb : WE} (ht : TW X c wt) (ha : EW X a wa) (hb : EW X b wb) : EW X (.IfExp c a b pos) (wIf wt wa wb) := by
  obtain ⟨tt, t1, t2⟩ := ht.ex
  obtain ⟨ta, a1, a2⟩ := ha.ex
  obtain ⟨tb, b1, b2⟩ := hb.ex
  refine ⟨_, pe_ifExp t1 a1 b1, fun S σ H ρ Q post R h k => ?_⟩
  refine t2 S σ H ρ _ _ R h fun S1 H1 q ρ1 R1 s1 h1 => ?_
  cases q with
  | true => exact a2 S1 σ H1 ρ1 _ _ R1 h1 fun S2 H2 v2 r2 ρ2 R2 s2 e2 h2 => k S2 H2 v2 r2 ρ2 R2 (s1.trans s2) e2 h2
  | false => exact b2 S1 σ H1 ρ1 _ _ R1 h1 fun S2 H2 v2 r2 ρ2 R2 s2 e2 h2 => k S2 H2 v2 r2 ρ2 R2 (s1.trans s2) e2 h2

/-! ### argument lists, displays -/
def wNil : WA := fun ρ post => post [] ρ
def wCons (wa : WE) (wr : WA) : WA := fun ρ post => wa ρ fun r ρ1 => wr ρ1 fun rs ρ2 => post (r :: rs) ρ2
theorem aw_nil : AW X [] wNil := ⟨_, pa_nil, fun S σ H ρ Q post R h k => k S H [] [] ρ R (Stp.refl S σ H ρ) .nil h⟩
theorem aw_cons {es : List Expr} {wa : WE} {wr : WA} (ha : EW X e wa) (hr : AW X es wr) (hs : starEach (e :: es) X.env = (false, eval e X.env) :: starEach es X.env := by rfl) : AW X (e :: es) (wCons wa wr) := by
  obtain ⟨ta, a1, a2⟩ := ha.ex
  obtain ⟨tr, b1, b2⟩ := hr.ex
  refine ⟨_, pa_cons a1 b1 hs, fun S σ H ρ Q post R h k => ?_⟩
  refine a2 S σ H ρ _ _ R h fun S1 H1 v1 r1 ρ1 R1 s1 e1 h1 => ?_
  exact b2 S1 σ H1 ρ1 _ _ R1 h1 fun S2 H2 vs rs ρ2 R2 s2 e2 h2 => k S2 H2 _ _ ρ2 R2 (s1.trans s2) (.cons (e1.mono s2.le) e2) h2
/-- frozen values alone -/
def shs : List Res → Option (List PV)
  | [] => some []
  | .sh x :: rs => match shs rs with
    | some xs => some (x :: xs)
    | none => none
  | .at _ :: _ => none
theorem ResL.is {K : PySem.W.Frag} {S : Gh} {σ : L2.St} : ∀ {vs : List V} {rs : List Res} {xs : List PV}, ResL K S σ vs rs → shs rs = some xs → IsL K S.G vs xs
  | _, _, _, .nil, e => by cases (Option.some.inj (show some [] = some _ from e)); exact .nil
  | _, .sh x :: rs, _, .cons h l, e => by
    unfold shs at e
    split at e
    · rename_i xs h2
      cases (Option.some.inj e)
      exact .cons h (ResL.is l h2)
    · cases e
  | _, .at _ :: _, _, .cons h l, e => by unfold shs at e; cases e
def smallN (n : Nat) : Prop := n ≤ 100000
theorem le_line {n : Nat} (h : n ≤ 100000) : n ≤ sizeLine := Nat.le_trans h (by rw [sizeLine_eq]; decide)
theorem lt_line {n : Nat} (h : n ≤ 100000) : n < sizeLine := Nat.lt_of_le_of_lt h (by rw [sizeLine_eq]; decide)
def wTup (wa : WA) : WE := fun ρ post => wa ρ fun rs ρ1 => oB (shs rs) fun xs => xs.length ≤ 100000 ∧ post (.sh (.tup xs)) ρ1
theorem ew_tup {es : List Expr} {x1} {wa : WA} (h : AW X es wa) : EW X (.Tuple es x1 pos) (wTup wa) := by
  obtain ⟨t, h1, h2⟩ := h.ex
  refine ⟨_, pe_tup h1, fun S σ H ρ Q post R hw k => ?_⟩
  refine h2 S σ H ρ _ _ R hw fun S1 H1 vs rs ρ1 R1 s1 e1 h1 => ?_
  obtain ⟨xs, ex, hz, h1⟩ := oB_ex h1
  have l := e1.is ex
  refine ⟨le_line (by rw [l.len]; exact hz), fun p hp => ?_⟩
  obtain ⟨R2, s2⟩ := R1.freezeNew (o := .tup vs) hp
  exact k _ _ _ _ ρ1 R2 (s1.trans s2) (.fz (Is.tup (.of upd_same) (l.mono s2.le.G))) h1
def wLst (wa : WA) : WF := fun ρ post => wa ρ fun rs ρ1 => oB (shs rs) fun xs => xs.length ≤ 100000 ∧ post (.lst xs) ρ1
theorem ef_lst {es : List Expr} {wa : WA} (h : AW X es wa) : EF X (.List es pos) (wLst wa) := by
  obtain ⟨t, h1, h2⟩ := h.ex
  refine ⟨_, pe_lst h1, fun S σ H ρ Q post R hw k => ?_⟩
  refine h2 S σ H ρ _ _ R hw fun S1 H1 vs rs ρ1 R1 s1 e1 h1 => ?_
  obtain ⟨xs, ex, hz, h1⟩ := oB_ex h1
  have l := e1.is ex
  refine ⟨le_line (by rw [l.len]; exact hz), fun p hp => ?_⟩
  obtain ⟨R2, s2⟩ := R1.layNew (o := .lst vs) hp
  exact k _ _ p (.lst xs) ρ1 R2 (s1.trans s2) ⟨vs, upd_same, l⟩ (R1.new0 hp) (s1.none hp) h1
/-- a new container, frozen -/
def wFz (w : WF) : WE := fun ρ post => w ρ fun o ρ1 => post (.sh o.pv) ρ1
end

/-- what is owned and not yet named is frozen -/
theorem Rep.freezeAt {K : PySem.W.Frag} {S : Gh} {σ : L2.St} {H : Hp} {ρ : Sls} {p : Addr} {o : Ow} (r : Rep K S σ H ρ) (ho : OwnAt K S.G H p o) (hf : FreshAt S σ ρ p) :
    ∃ S', Rep K S' σ H ρ ∧ Is K S'.G (.ref p) o.pv ∧ ∀ (S0 : Gh) (H0 : Hp) (ρ0 : Sls), Stp S0 σ H0 ρ0 S H ρ → H0 p = none → Stp S0 σ H0 ρ0 S' H ρ := by
  cases o with
  | dct _ => exact ho.elim
  | lst xs =>
    obtain ⟨vs, e, l⟩ := ho
    obtain ⟨h1, h2, h3, h4⟩ := hf
    have s1 : Sub S.G (upd S.G p (.lst vs)) := Sub.new h1
    have gk : ∀ q, upd S.G p (.lst vs) q ≠ none → q ≠ p → S.G q ≠ none := fun q k z => by rw [upd_ne z] at k; exact k
    refine ⟨{ S with G := upd S.G p (.lst vs) }, ⟨r.gg.trans s1, fun a u q => ?_, fun a ha => ?_, r.frame, ?_, r.len, fun i x q => ?_, fun i q e' => ?_, r.sep, r.rsl⟩, .lst (.of upd_same) (l.mono s1), fun S0 H0 ρ0 a hp0 => ⟨⟨a.le.R, a.le.H0, a.le.G0, a.le.G.trans s1⟩, a.fr, fun q k1 k2 k3 => a.gfr q (gk q k1 fun z => k3 (by rw [z]; exact hp0)) k2 k3, a.mon, a.st⟩⟩
    · have q' : upd S.G p (.lst vs) a = some u := q
      by_cases z : a = p
      · subst z; rw [upd_same] at q'; rw [e]; exact q'
      · rw [upd_ne z] at q'; exact r.gh a u q'
    · by_cases z : a = p
      · subst z; exact .inr h2
      · refine r.gnew a fun q => ha ?_
        show upd S.G p (.lst vs) a = none
        rw [upd_ne z]; exact q
    · cases hR : S.R with
      | none => trivial
      | some q =>
        have hr := r.res
        rw [hR] at hr h3
        refine ⟨q.frame H _ (fun _ _ => rfl) s1 hr.1, fun a ha => ?_⟩
        show upd S.G p (.lst vs) a = none
        rw [upd_ne (fun z => h3 (by rw [← z]; exact ha))]; exact hr.2 a ha
    · obtain ⟨v, e1, e2⟩ := r.sh i x q
      exact ⟨v, e1, e2.mono s1⟩
    · obtain ⟨b, e1, e2, e3, e4, e5⟩ := r.own i q e'
      have hne : b ≠ p := fun z => h4 i q e' (by rw [e1, z])
      exact ⟨b, e1, e2.keep s1 rfl, by show upd S.G p (.lst vs) b = none; rw [upd_ne hne]; exact e3, e4, e5⟩

section
variable {X : Cx} {e : Expr}
theorem ew_fz {w : WF} (h : EF X e w) : EW X e (wFz w) := by
  obtain ⟨t, h1, h2⟩ := h.ex
  refine ⟨t, h1, fun S σ H ρ Q post R hw k => ?_⟩
  refine h2 S σ H ρ _ _ R hw fun S1 H1 p o ρ1 R1 s1 e1 f1 n1 h1 => ?_
  obtain ⟨S2, R2, i2, s2⟩ := R1.freezeAt e1 f1
  exact k S2 H1 _ _ ρ1 R2 (s2 _ _ _ s1 n1) (.fz i2) h1
end
end NL

/-! NL3: statements, loops, comprehensions. -/
namespace NL
open PySem PySem.Spec PyProof.Rows L2

/-- what is handed back -/
inductive RV where
  | sh (x : PV) | own (o : Ow)
structure WD where
  nx : Sls → Prop
  rt : RV → Sls → Prop
  bk : Sls → Prop := fun _ => False
  ct : Sls → Prop := fun _ => False
abbrev WS := WD → Sls → Prop
def RetAt (K : PySem.W.Frag) (S : Gh) (H : Hp) (v : V) : RV → Prop
  | .sh x => Is K S.G v x
  | .own o => ∃ p, v = .ref p ∧ OwnAt K S.G H p o ∧ S.G p = none ∧ S.H0 p = none ∧ p ∉ Rfp S.R
/-- how many draws are left, by the slots -/
def resN : Sls → Option Nat
  | [] => none
  | .res _ n :: _ => some n
  | _ :: ρ => resN ρ
structure Cp (K : PySem.W.Frag) (S : Gh) (D : WD) (E : Ends) : Prop where
  nx : ∀ S' σ H ρ, SLe S S' → Rep K S' σ H ρ → D.nx ρ → E.nx σ H
  rt : ∀ S' σ H ρ v r, SLe S S' → Rep K S' σ H ρ → RetAt K S' H v r → D.rt r ρ → E.rt v H
  bk : ∀ S' σ H ρ, SLe S S' → Rep K S' σ H ρ → D.bk ρ → E.bk σ H
  ct : ∀ S' σ H ρ, SLe S S' → Rep K S' σ H ρ → D.ct ρ → E.ct σ H
theorem Cp.le {K : PySem.W.Frag} {S S' : Gh} {D : WD} {E : Ends} (c : Cp K S D E) (s : SLe S S') : Cp K S' D E :=
  ⟨fun _ _ _ _ q => c.nx _ _ _ _ (s.trans q), fun _ _ _ _ _ _ q => c.rt _ _ _ _ _ _ (s.trans q), fun _ _ _ _ q => c.bk _ _ _ _ (s.trans q), fun _ _ _ _ q => c.ct _ _ _ _ (s.trans q)⟩
def RdS (K : PySem.W.Frag) (t : TS) (w : WS) : Prop := ∀ (S : Gh) (σ : L2.St) (H : Hp) (ρ : Sls) (D : WD) (E : Ends), Rep K S σ H ρ → w D ρ → Cp K S D E → t E σ H
structure SW (X : Cx) (st : Stmt) (w : WS) : Prop where
  ex : ∃ t, PS X st t ∧ RdS X.K t w
structure SWs (X : Cx) (sts : List Stmt) (w : WS) : Prop where
  ex : ∃ t, PSs X sts t ∧ RdS X.K t w

/-! ### stores -/
section
variable {K : PySem.W.Frag} {S : Gh} {σ : L2.St} {H : Hp} {ρ : Sls}
theorem get_set {α : Type} {l : List α} {i j : Nat} {a b : α} (h : (l.set i a)[j]? = some b) : (i = j ∧ b = a) ∨ (i ≠ j ∧ l[j]? = some b) := by
  by_cases e : i = j
  · subst e
    by_cases hl : i < l.length
    · rw [List.getElem?_set_self hl] at h
      exact .inl ⟨rfl, (Option.some.inj h).symm⟩
    · rw [List.getElem?_eq_none (by rw [List.length_set]; omega)] at h; cases h
  · rw [List.getElem?_set_ne e] at h
    exact .inr ⟨e, h⟩
theorem set_lt {α : Type} {l : List α} {i : Nat} {a b : α} (h : (l.set i a)[i]? = some b) : i < l.length := by
  have := (List.getElem?_eq_some_iff.mp h).1
  rwa [List.length_set] at this
theorem Rep.rslSet (r : Rep K S σ H ρ) (i : Nat) {v : Option V} {s : Sl} (hs : ∀ k n, s ≠ .res k n) : ∀ (j k n : Nat), (ρ.set i s)[j]? = some (.res k n) → ∃ r, S.R = some r ∧ r.kind = k ∧ (σ.set i v)[j]? = some (some (.ref r.F)) ∧ r.bud n H := fun j k n e => by
  rcases get_set e with ⟨_, q⟩ | ⟨hn, q⟩
  · exact absurd q.symm (hs k n)
  · obtain ⟨q, h1, h2, h3, h4⟩ := r.rsl j k n q
    exact ⟨q, h1, h2, by rw [List.getElem?_set_ne hn]; exact h3, h4⟩
theorem Rep.setSh (r : Rep K S σ H ρ) (i : Nat) {v : V} {x : PV} (h : Is K S.G v x) : Rep K S (σ.set i (some v)) H (ρ.set i (.sh x)) := by
  refine ⟨r.gg, r.gh, r.gnew, r.frame, r.res, by rw [List.length_set, List.length_set, r.len], fun j y e => ?_, fun j o e => ?_, fun j k oj ok p hjk ej ek sj sk => ?_, r.rslSet i (by simp)⟩
  · rcases get_set e with ⟨rfl, q⟩ | ⟨hn, q⟩
    · cases q
      have hl := set_lt e
      exact ⟨v, by rw [List.getElem?_set_self (by rw [r.len]; exact hl)], h⟩
    · obtain ⟨u, e1, e2⟩ := r.sh j y q
      exact ⟨u, by rw [List.getElem?_set_ne hn]; exact e1, e2⟩
  · rcases get_set e with ⟨rfl, q⟩ | ⟨hn, q⟩
    · cases q
    · obtain ⟨p, e1, e2⟩ := r.own j o q
      exact ⟨p, by rw [List.getElem?_set_ne hn]; exact e1, e2⟩
  · rcases get_set ej with ⟨rfl, q⟩ | ⟨hn, q⟩
    · cases q
    · rcases get_set ek with ⟨rfl, q'⟩ | ⟨hn', q'⟩
      · cases q'
      · rw [List.getElem?_set_ne hn] at sj
        rw [List.getElem?_set_ne hn'] at sk
        exact r.sep j k oj ok p hjk q q' sj sk
theorem Rep.setOwn (r : Rep K S σ H ρ) (i : Nat) {p : Addr} {o : Ow} (h : OwnAt K S.G H p o) (f : FreshAt S σ ρ p) : Rep K S (σ.set i (some (.ref p))) H (ρ.set i (.own o)) := by
  obtain ⟨f1, f2, f3, f4⟩ := f
  refine ⟨r.gg, r.gh, r.gnew, r.frame, r.res, by rw [List.length_set, List.length_set, r.len], fun j y e => ?_, fun j o' e => ?_, fun j k oj ok b hjk ej ek sj sk => ?_, r.rslSet i (by simp)⟩
  · rcases get_set e with ⟨rfl, q⟩ | ⟨hn, q⟩
    · cases q
    · obtain ⟨u, e1, e2⟩ := r.sh j y q
      exact ⟨u, by rw [List.getElem?_set_ne hn]; exact e1, e2⟩
  · rcases get_set e with ⟨rfl, q⟩ | ⟨hn, q⟩
    · cases q
      have hl := set_lt e
      exact ⟨p, by rw [List.getElem?_set_self (by rw [r.len]; exact hl)], h, f1, f2, f3⟩
    · obtain ⟨b, e1, e2⟩ := r.own j o' q
      exact ⟨b, by rw [List.getElem?_set_ne hn]; exact e1, e2⟩
  · rcases get_set ej with ⟨hj, q⟩ | ⟨hn, q⟩
    · rcases get_set ek with ⟨hk, q'⟩ | ⟨hn', q'⟩
      · exact hjk (hj.symm.trans hk)
      · rw [List.getElem?_set_ne hn'] at sk
        subst hj
        have hl := set_lt ej
        rw [List.getElem?_set_self (by rw [r.len]; exact hl)] at sj
        cases (Option.some.inj (Option.some.inj sj))
        exact f4 k ok q' sk
    · rw [List.getElem?_set_ne hn] at sj
      rcases get_set ek with ⟨hk, q'⟩ | ⟨hn', q'⟩
      · subst hk
        have hl := set_lt ek
        rw [List.getElem?_set_self (by rw [r.len]; exact hl)] at sk
        cases (Option.some.inj (Option.some.inj sk))
        exact f4 j oj q sj
      · rw [List.getElem?_set_ne hn'] at sk
        exact r.sep j k oj ok b hjk q q' sj sk
theorem Rep.setUn (r : Rep K S σ H ρ) (i : Nat) : Rep K S σ H (ρ.set i .un) := by
  refine ⟨r.gg, r.gh, r.gnew, r.frame, r.res, by rw [List.length_set, r.len], fun j y e => ?_, fun j o' e => ?_, fun j k oj ok b hjk ej ek sj sk => ?_, fun j k n e => by
    rcases get_set e with ⟨_, q⟩ | ⟨_, q⟩
    · cases q
    · exact r.rsl j k n q⟩
  · rcases get_set e with ⟨rfl, q⟩ | ⟨hn, q⟩
    · cases q
    · exact r.sh j y q
  · rcases get_set e with ⟨rfl, q⟩ | ⟨hn, q⟩
    · cases q
    · exact r.own j o' q
  · rcases get_set ej with ⟨hj, q⟩ | ⟨hn, q⟩
    · cases q
    · rcases get_set ek with ⟨hk, q'⟩ | ⟨hn', q'⟩
      · cases q'
      · exact r.sep j k oj ok b hjk q q' sj sk

/-- what a slot owns is frozen, and stays in its slot -/
theorem Rep.freezeSlot (r : Rep K S σ H ρ) {j : Nat} {o : Ow} (e : ρ[j]? = some (.own o)) : ∃ p S', σ[j]? = some (some (.ref p)) ∧ Rep K S' σ H (ρ.set j (.sh o.pv)) ∧ Stp S σ H ρ S' H (ρ.set j (.sh o.pv)) ∧ Is K S'.G (.ref p) o.pv := by
  obtain ⟨p, e1, e2, e3, e4, e5⟩ := r.own j o e
  have r1 := r.setUn j
  have hl : j < ρ.length := (List.getElem?_eq_some_iff.mp e).1
  obtain ⟨S', r2, i2, s2⟩ := r1.freezeAt (p := p) (o := o) e2 ⟨e3, e4, e5, fun k ok ek sk => by
    rcases get_set ek with ⟨hk, q⟩ | ⟨hn, q⟩
    · cases q
    · exact r.sep j k o ok p hn e q e1 sk⟩
  have le : SLe S S' ∧ ∀ q, S'.G q ≠ none → S.G q = none → q = p := by
    cases o with
    | dct _ => exact e2.elim
    | lst xs =>
      have st := (s2 S (fun a => if a = p then none else H a) (ρ.set j .un) ⟨SLe.refl S, fun q u h _ _ => by
        by_cases z : q = p
        · subst z; rw [if_pos rfl] at h; cases h
        · rw [if_neg z] at h; exact h, fun q h1 h2 _ => absurd h2 h1, fun _ o e => ⟨o, e⟩, fun q h => by
        by_cases z : q = p
        · subst z; rw [if_pos rfl] at h; exact absurd rfl h
        · rw [if_neg z] at h; exact h⟩ (if_pos rfl))
      refine ⟨st.le, fun q h1 h2 => ?_⟩
      by_cases z : q = p
      · exact z
      · by_cases hq : H q = none
        · exact absurd (r2.gh.ne hq) h1
        · obtain ⟨i, ow, f1, f2⟩ := st.gfr q h1 h2 (by rw [if_neg z]; exact hq)
          rcases get_set f1 with ⟨_, w⟩ | ⟨_, w⟩
          · cases w
          · obtain ⟨b, g1, _, _, _, _⟩ := r.own i ow w
            exact absurd h1 (by
              obtain ⟨b', k1, k2, k3, _⟩ := r2.own i ow f1
              rw [f2] at k1
              cases (Option.some.inj (Option.some.inj k1))
              rw [k3]; simp)
  refine ⟨p, S', e1, ?_, ⟨le.1, fun _ _ e _ _ => e, fun q h1 h2 _ => ?_, fun i o' e' => ?_, fun _ h => h⟩, i2⟩
  rotate_left
  · rw [le.2 q h1 h2]; exact ⟨j, o, e, e1⟩
  · rcases get_set e' with ⟨_, w⟩ | ⟨_, w⟩
    · cases w
    · exact ⟨o', w⟩
  have r3 := r2.setSh j i2
  rw [List.set_set] at r3
  have hs : σ.set j (some (.ref p)) = σ := by
    apply List.ext_getElem?
    intro k
    by_cases z : j = k
    · subst z
      rw [List.getElem?_set_self (by rw [r.len]; exact hl), e1]
    · rw [List.getElem?_set_ne z]
  rw [hs] at r3
  exact r3
end

/-! ### small statements -/
def wNext : WS := fun D ρ => D.nx ρ
def wSeq (w u : WS) : WS := fun D ρ => w { D with nx := u D } ρ
def wDrop (w : WE) : WS := fun D ρ => w ρ fun _ ρ1 => D.nx ρ1
def wRet (w : WE) : WS := fun D ρ => w ρ fun r ρ1 => match r with
  | .sh x => D.rt (.sh x) ρ1
  | .at i => match ρ1[i]? with
    | some (.own o) => D.rt (.own o) ρ1
    | _ => False
def wRetF (w : WF) : WS := fun D ρ => w ρ fun o ρ1 => D.rt (.own o) ρ1
def wRetN : WS := fun D ρ => D.rt (.sh .non) ρ
def wIfS (wt : WT) (w u : WS) : WS := fun D ρ => wt ρ fun b ρ1 => if b = true then w D ρ1 else u D ρ1
def wNever : WS := fun _ _ => False
/-- a value goes into a slot: what was owned is frozen -/
def put (i : Nat) (r : Res) (ρ : Sls) : Option Sls := match r with
  | .sh x => some (ρ.set i (.sh x))
  | .at j => match ρ[j]? with
    | some (.own o) => some ((ρ.set j (.sh o.pv)).set i (.sh o.pv))
    | _ => none
def wSet (i : Nat) (w : WE) : WS := fun D ρ => w ρ fun r ρ1 => oB (put i r ρ1) D.nx
def wSetF (i : Nat) (w : WF) : WS := fun D ρ => w ρ fun o ρ1 => D.nx (ρ1.set i (.own o))
section
variable {K : PySem.W.Frag} {S : Gh} {σ : L2.St} {H : Hp} {ρ ρ' : Sls}
theorem Rep.put (R : Rep K S σ H ρ) {i : Nat} {r : Res} {v : V} (h : ResAt K S σ v r) (e : put i r ρ = some ρ') : ∃ S', SLe S S' ∧ Rep K S' (σ.set i (some v)) H ρ' := by
  cases r with
  | sh x =>
    cases (Option.some.inj e)
    exact ⟨S, SLe.refl S, R.setSh i h⟩
  | «at» j =>
    unfold NL.put at e
    dsimp only at e
    split at e
    · rename_i o q
      cases (Option.some.inj e)
      obtain ⟨p, S', e1, R', le, i2⟩ := R.freezeSlot q
      have h' : σ[j]? = some (some v) := h
      rw [e1] at h'
      cases (Option.some.inj (Option.some.inj h'))
      exact ⟨S', le.le, R'.setSh i i2⟩
    · cases e
end
section
variable {X : Cx} {e c : Expr} {st : Stmt} {sts a b : List Stmt} {pos : Pos}
theorem sws_nil : SWs X [] wNext := ⟨_, pss_nil, fun S σ H ρ D E R h k => k.nx S σ H ρ (SLe.refl S) R h⟩
theorem sws_cons {w u : WS} (h1 : SW X st w) (h2 : SWs X sts u) : SWs X (st :: sts) (wSeq w u) := by
  obtain ⟨t1, a1, a2⟩ := h1.ex
  obtain ⟨t2, b1, b2⟩ := h2.ex
  refine ⟨_, pss_cons a1 b1, fun S σ H ρ D E R h k => ?_⟩
  exact a2 S σ H ρ { D with nx := u D } _ R h ⟨fun S' σ' H' ρ' s R' h' => b2 S' σ' H' ρ' D E R' h' (k.le s), k.rt, k.bk, k.ct⟩
theorem sws_one {w : WS} (h1 : SW X st w) : SWs X [st] w := by
  obtain ⟨t1, a1, a2⟩ := h1.ex
  exact ⟨_, pss_one a1, a2⟩
theorem sw_pass : SW X (.Pass pos) wNext := ⟨_, ps_pass, fun S σ H ρ D E R h k => k.nx S σ H ρ (SLe.refl S) R h⟩
theorem sw_break : SW X (.Break pos) (fun D ρ => D.bk ρ) := ⟨_, ps_break, fun S σ H ρ D E R h k => k.bk S σ H ρ (SLe.refl S) R h⟩
theorem sw_continue : SW X (.Continue pos) (fun D ρ => D.ct ρ) := ⟨_, ps_continue, fun S σ H ρ D E R h k => k.ct S σ H ρ (SLe.refl S) R h⟩
theorem sw_never : SW X st wNever := ⟨_, ps_never, fun _ _ _ _ _ _ _ h _ => h.elim⟩
theorem sws_never : SWs X sts wNever := ⟨_, pss_never, fun _ _ _ _ _ _ _ h _ => h.elim⟩
theorem sw_expr {w : WE} (h : EW X e w) (hs : swapsWith e none pos.line X.env = pure false := by rfl) : SW X (.Expr e pos) (wDrop w) := by
  obtain ⟨t, h1, h2⟩ := h.ex
  exact ⟨_, ps_expr h1 hs, fun S σ H ρ D E R h k => h2 S σ H ρ _ _ R h fun S1 H1 v1 r1 ρ1 R1 s1 _ q => k.nx S1 σ H1 ρ1 s1.le R1 q⟩
theorem sw_ret {w : WE} (h : EW X e w) : SW X (.Return (some e) pos) (wRet w) := by
  obtain ⟨t, h1, h2⟩ := h.ex
  refine ⟨_, ps_ret h1, fun S σ H ρ D E R h k => h2 S σ H ρ _ _ R h fun S1 H1 v1 r1 ρ1 R1 s1 e1 q => ?_⟩
  cases r1 with
  | sh x => exact k.rt S1 σ H1 ρ1 v1 (.sh x) s1.le R1 e1 q
  | «at» i =>
    dsimp only at q
    split at q
    · rename_i o qo
      obtain ⟨p, f1, f2, f3, f4, f5⟩ := R1.own i o qo
      have h' : σ[i]? = some (some v1) := e1
      rw [f1] at h'
      cases (Option.some.inj (Option.some.inj h'))
      exact k.rt S1 σ H1 ρ1 _ (.own o) s1.le R1 ⟨p, rfl, f2, f3, f4, f5⟩ q
    · exact q.elim
theorem sw_retF {w : WF} (h : EF X e w) : SW X (.Return (some e) pos) (wRetF w) := by
  obtain ⟨t, h1, h2⟩ := h.ex
  exact ⟨_, ps_ret h1, fun S σ H ρ D E R h k => h2 S σ H ρ _ _ R h fun S1 H1 p o ρ1 R1 s1 e1 f1 n1 q => k.rt S1 σ H1 ρ1 _ (.own o) s1.le R1 ⟨p, rfl, e1, f1.1, f1.2.1, f1.2.2.1⟩ q⟩
theorem sw_retN : SW X (.Return none pos) wRetN := ⟨_, ps_retN, fun S σ H ρ D E R h k => k.rt S σ H ρ .non (.sh .non) (SLe.refl S) R .non h⟩
theorem sw_if {wt : WT} {w u : WS} (hc : TW X c wt) (ha : SWs X a w) (hb : SWs X b u) : SW X (.If c a b pos) (wIfS wt w u) := by
  obtain ⟨tt, t1, t2⟩ := hc.ex
  obtain ⟨ta, a1, a2⟩ := ha.ex
  obtain ⟨tb, b1, b2⟩ := hb.ex
  refine ⟨_, ps_if t1 a1 b1, fun S σ H ρ D E R h k => t2 S σ H ρ _ _ R h fun S1 H1 q ρ1 R1 s1 h1 => ?_⟩
  cases q with
  | true => exact a2 S1 σ H1 ρ1 D E R1 h1 (k.le s1.le)
  | false => exact b2 S1 σ H1 ρ1 D E R1 h1 (k.le s1.le)
theorem sw_set {i : Nat} {x : Str} {w : WE} {pos' : Pos} (hN : X.N.Nodup) (h : EW X e w) (hi : X.N[i]? = some x := by rfl) (hx : Loc X.env.scope x := by first | exact Or.inl rfl | exact Or.inr rfl) (hs : swapsWith e (some (.Name x pos')) pos.line X.env = pure false := by rfl)
    (hf : X.fn x = true ∨ X.env.scope.names.lookup x = some .local := by first | exact .inl rfl | exact .inr rfl) : SW X (.Assign [.Name x pos'] e pos) (wSet i w) := by
  obtain ⟨t, h1, h2⟩ := h.ex
  refine ⟨_, ps_set (i := i) hN hi hx h1 hs hf, fun S σ H ρ D E R h k => h2 S σ H ρ _ _ R h fun S1 H1 v1 r1 ρ1 R1 s1 e1 q => ?_⟩
  obtain ⟨ρ2, q1, q2⟩ := oB_ex q
  obtain ⟨S2, le, R2⟩ := R1.put e1 q1
  exact k.nx S2 _ H1 ρ2 (s1.le.trans le) R2 q2
theorem sw_setF {i : Nat} {x : Str} {w : WF} {pos' : Pos} (hN : X.N.Nodup) (h : EF X e w) (hi : X.N[i]? = some x := by rfl) (hx : Loc X.env.scope x := by first | exact Or.inl rfl | exact Or.inr rfl) (hs : swapsWith e (some (.Name x pos')) pos.line X.env = pure false := by rfl)
    (hf : X.fn x = true ∨ X.env.scope.names.lookup x = some .local := by first | exact .inl rfl | exact .inr rfl) : SW X (.Assign [.Name x pos'] e pos) (wSetF i w) := by
  obtain ⟨t, h1, h2⟩ := h.ex
  exact ⟨_, ps_set (i := i) hN hi hx h1 hs hf, fun S σ H ρ D E R h k => h2 S σ H ρ _ _ R h fun S1 H1 p o ρ1 R1 s1 e1 f1 n1 q => k.nx S1 _ H1 _ s1.le (R1.setOwn i e1 f1) q⟩
/-- name op= e -/
def wAug (i : Nat) (g : PV → PV → Option PV) (w : WE) : WS := fun D ρ => match ρ[i]? with
  | some (.sh x) => w ρ fun r ρ1 => oB (val ρ1 r) fun y => oB (g x y) fun z => D.nx (ρ1.set i (.sh z))
  | _ => False
theorem sw_aug {i : Nat} {x : Str} {op : Operator} {g : PV → PV → Option PV} {w : WE} {pos' : Pos} (hN : X.N.Nodup) (ho : OpW X (inplaceOp op) g) (h : EW X e w) (hi : X.N[i]? = some x := by rfl) (hx : Loc X.env.scope x := by first | exact Or.inl rfl | exact Or.inr rfl)
    (hf : X.fn x = true ∨ X.env.scope.names.lookup x = some .local := by first | exact .inl rfl | exact .inr rfl) : SW X (.AugAssign (.Name x pos') op e pos) (wAug i g w) := by
  obtain ⟨t, h1, h2⟩ := h.ex
  obtain ⟨r, o1, o2⟩ := ho.ex
  refine ⟨_, ps_aug (i := i) (ti := r) hN hi hx h1 o1 hf, fun S σ H ρ D E R h k => ?_⟩
  unfold wAug at h
  split at h
  · rename_i y ey
    obtain ⟨v, e1, e2⟩ := R.sh i y ey
    refine ⟨v, e1, h2 S σ H ρ _ _ R h fun S1 H1 v1 r1 ρ1 R1 s1 f1 q => ?_⟩
    obtain ⟨y', k1, q⟩ := oB_ex q
    obtain ⟨z, k2, q⟩ := oB_ex q
    refine o2 S1 σ H1 ρ1 y y' v v1 z _ R1 (.val (e2.mono s1.le.G)) (f1.top R1 k1) k2 fun S2 H2 v2 R2 s2 i2 => ?_
    exact k.nx S2 _ H2 _ (s1.le.trans s2.le) (R2.setSh i i2) q
  · exact h.elim

/-! ### while -/
def wWhile (wt : WT) (wb : WS) : WS := fun D ρ => ∃ I : Nat → Sls → Prop, (∃ m, I m ρ) ∧ ∀ m ρ, I m ρ →
  wt ρ fun b ρ1 => if b = true then wb { D with nx := fun ρ' => ∃ m', m' < m ∧ I m' ρ', ct := fun ρ' => ∃ m', m' < m ∧ I m' ρ', bk := D.nx } ρ1 else D.nx ρ1
theorem sw_while {wt : WT} {wb : WS} (hp : PassesOwn (model X.prog X.w) X.A X.env X.xe) (hc : TW X c wt) (hb : SWs X b wb) : SW X (.While c b [] pos) (wWhile wt wb) := by
  obtain ⟨tt, t1, t2⟩ := hc.ex
  obtain ⟨tb, b1, b2⟩ := hb.ex
  refine ⟨_, ps_while hp t1 b1, fun S σ H ρ D E R h k => ?_⟩
  obtain ⟨I, ⟨m0, i0⟩, turn⟩ := h
  refine ⟨fun m σ H => ∃ S' ρ', SLe S S' ∧ Rep X.K S' σ H ρ' ∧ I m ρ', ⟨m0, S, ρ, SLe.refl S, R, i0⟩, ?_⟩
  rintro m σ1 H1 ⟨S1, ρ1, s1, R1, i1⟩
  refine t2 S1 σ1 H1 ρ1 _ _ R1 (turn m ρ1 i1) fun S2 H2 q ρ2 R2 s2 h2 => ?_
  cases q with
  | false => exact k.nx S2 σ1 H2 ρ2 (s1.trans s2.le) R2 h2
  | true =>
    rw [if_pos rfl] at h2 ⊢
    refine ⟨fun σ' H' => ∃ S' ρ', SLe S S' ∧ Rep X.K S' σ' H' ρ' ∧ ∃ m', m' < m ∧ I m' ρ', fun σ' H' ⟨S', ρ', a1, a2, m', a3, a4⟩ => ⟨m', a3, S', ρ', a1, a2, a4⟩, ?_⟩
    have s12 := s1.trans s2.le
    exact b2 S2 σ1 H2 ρ2 _ _ R2 h2 ⟨fun S' σ' H' ρ' s R' h' => ⟨S', ρ', s12.trans s, R', h'⟩, (k.le s12).rt, (k.le s12).nx, fun S' σ' H' ρ' s R' h' => ⟨S', ρ', s12.trans s, R', h'⟩⟩
end

/-! ### what is walked -/
/-- J gives the values xs, whatever is done meanwhile -/
def WalkW (K : PySem.W.Frag) (S : Gh) (J : It) (xs : List PV) : Prop := ∀ S' σ H ρ, SLe S S' → Rep K S' σ H ρ →
  (∀ i, i < xs.length → J.go i H) ∧ J.stop xs.length H ∧ ∀ i v H' x, xs[i]? = some x → J.yld i H v H' → ∃ S'', Rep K S'' σ H' ρ ∧ Stp S' σ H ρ S'' H' ρ ∧ Is K S''.G v x
theorem WalkW.le {K : PySem.W.Frag} {S S' : Gh} {J : It} {xs : List PV} (w : WalkW K S J xs) (s : SLe S S') : WalkW K S' J xs := fun _ _ _ _ q => w _ _ _ _ (s.trans q)
abbrev WI := Sls → (List PV → Sls → Prop) → Prop
def RdI (K : PySem.W.Frag) (t : TI) (w : WI) : Prop := ∀ (S : Gh) (σ : L2.St) (H : Hp) (ρ : Sls) (R : It → Hp → Prop) (post : List PV → Sls → Prop), Rep K S σ H ρ → w ρ post →
  (∀ S' H' J xs ρ', Rep K S' σ H' ρ' → Stp S σ H ρ S' H' ρ' → WalkW K S' J xs → post xs ρ' → R J H') → t σ H R
structure IW (X : Cx) (tg iter : Expr) (w : WI) : Prop where
  ex : ∃ t, PI X tg iter t ∧ RdI X.K t w
abbrev WG := PV → Sls → (Sls → Prop) → Prop
def RdG (K : PySem.W.Frag) (t : TG) (w : WG) : Prop := ∀ (S : Gh) (σ : L2.St) (H : Hp) (ρ : Sls) (v : V) (x : PV) (Q : L2.St → Hp → Prop) (post : Sls → Prop), Rep K S σ H ρ → Is K S.G v x → w x ρ post →
  (∀ S' σ' H' ρ', SLe S S' → Rep K S' σ' H' ρ' → post ρ' → Q σ' H') → t v σ H Q
structure GW (X : Cx) (tg : Expr) (w : WG) : Prop where
  ex : ∃ t, PG X tg t ∧ RdG X.K t w
def wName (i : Nat) : WG := fun x ρ post => post (ρ.set i (.sh x))
abbrev WGs := List PV → Sls → (Sls → Prop) → Prop
def RdGs (K : PySem.W.Frag) (t : TGs) (w : WGs) : Prop := ∀ (S : Gh) (σ : L2.St) (H : Hp) (ρ : Sls) (vs : List V) (xs : List PV) (Q : L2.St → Hp → Prop) (post : Sls → Prop), Rep K S σ H ρ → IsL K S.G vs xs → w xs ρ post →
  (∀ S' σ' H' ρ', SLe S S' → Rep K S' σ' H' ρ' → post ρ' → Q σ' H') → t vs σ H Q
structure GWs (X : Cx) (tgs : List Expr) (w : WGs) : Prop where
  ex : ∃ t, PGs X tgs t ∧ RdGs X.K t w
def wGNil : WGs := fun xs ρ post => match xs with
  | [] => post ρ
  | _ => False
def wGCons (w : WG) (u : WGs) : WGs := fun xs ρ post => match xs with
  | x :: r => w x ρ fun ρ1 => u r ρ1 post
  | [] => False
def wGTup (n : Nat) (u : WGs) : WG := fun x ρ post => match x with
  | .tup xs => xs.length = n ∧ u xs ρ post
  | _ => False
section
variable {X : Cx} {tg e iter : Expr} {tgs : List Expr} {body : List Stmt} {pos : Pos}
theorem gw_name (i : Nat) {x : Str} (hN : X.N.Nodup) (hi : X.N[i]? = some x := by rfl) (hx : Loc X.env.scope x := by first | exact Or.inl rfl | exact Or.inr rfl) (hf : X.fn x = true ∨ X.env.scope.names.lookup x = some .local := by first | exact .inl rfl | exact .inr rfl) : GW X (.Name x pos) (wName i) :=
  ⟨_, pg_name (i := i) hN hi hx hf, fun S σ H ρ v x Q post R h hw k => k S _ H _ (SLe.refl S) (R.setSh i h) hw⟩
theorem gws_nil : GWs X [] wGNil := ⟨_, pgs_nil, fun S σ H ρ vs xs Q post R h hw k => by
  cases h with
  | nil => exact ⟨rfl, k S σ H ρ (SLe.refl S) R hw⟩
  | cons _ _ => exact hw.elim⟩
theorem gws_cons {w : WG} {u : WGs} (h1 : GW X e w) (h2 : GWs X tgs u) (hs : (assignEach (e :: tgs) X.env).map (·.2) = assign e X.env :: (assignEach tgs X.env).map (·.2) := by rfl) : GWs X (e :: tgs) (wGCons w u) := by
  obtain ⟨t1, a1, a2⟩ := h1.ex
  obtain ⟨t2, b1, b2⟩ := h2.ex
  refine ⟨_, pgs_cons a1 b1 hs, fun S σ H ρ vs xs Q post R h hw k => ?_⟩
  cases h with
  | nil => exact hw.elim
  | cons i l =>
    refine ⟨_, _, rfl, a2 S σ H ρ _ _ _ _ R i hw fun S1 σ1 H1 ρ1 s1 R1 h1 => ?_⟩
    exact b2 S1 σ1 H1 ρ1 _ _ _ _ R1 (l.mono s1.G) h1 fun S2 σ2 H2 ρ2 s2 R2 h2 => k S2 σ2 H2 ρ2 (s1.trans s2) R2 h2
theorem gw_tup {k : Nat} {u : WGs} {n : Nat} (hc : X.calm = true) (h : GWs X tgs u) (hn : (assignEach tgs X.env).length = n := by rfl) (hst : (assignEach tgs X.env).findIdx? (·.1) = none := by rfl) : GW X (.Tuple tgs k pos) (wGTup n u) := by
  obtain ⟨t1, a1, a2⟩ := h.ex
  refine ⟨_, pg_tup (n := n) hc a1 hn hst, fun S σ H ρ v x Q post R h hw k => ?_⟩
  cases x with
  | tup xs =>
    obtain ⟨a, vs, e, q, l⟩ := h.tup_iff
    obtain ⟨hn, hw⟩ := hw
    exact ⟨a, vs, e, R.gh.sqt q, by rw [l.len]; exact hn, a2 S σ H ρ _ _ _ _ R l hw k⟩
  | _ => exact hw.elim
/-- target = value -/
def wAsg (w : WE) (g : WG) : WS := fun D ρ => w ρ fun r ρ1 => match r with
  | .sh x => g x ρ1 D.nx
  | _ => False
theorem sw_asg {w : WE} {g : WG} (he : EW X e w) (hg : GW X tg g) (hs : swapsWithSole [tg] e pos.line X.env = pure false := by rfl) (hw : swappedStores [tg] e X.env = pure none := by rfl) (h1 : (assignEach [tg] X.env).map (·.2) = [assign tg X.env] := by rfl) : SW X (.Assign [tg] e pos) (wAsg w g) := by
  obtain ⟨t, e1, e2⟩ := he.ex
  obtain ⟨u, g1, g2⟩ := hg.ex
  refine ⟨_, ps_asg e1 g1 hs hw h1, fun S σ H ρ D E R h k => e2 S σ H ρ _ _ R h fun S1 H1 v1 r1 ρ1 R1 s1 f1 q => ?_⟩
  cases r1 with
  | «at» i => exact q.elim
  | sh x => exact g2 S1 σ H1 ρ1 v1 x _ _ R1 f1 q fun S2 σ2 H2 ρ2 s2 R2 h2 => k.nx S2 σ2 H2 ρ2 (s1.le.trans s2) R2 h2

/-! ### for -/
def wLoop (g : WG) (wb : WS) (D : WD) : List PV → Sls → Prop
  | [], ρ => D.nx ρ
  | x :: xs, ρ => g x ρ fun ρ1 => wb { D with nx := wLoop g wb D xs, ct := wLoop g wb D xs, bk := D.nx } ρ1
def wFor (wi : WI) (g : WG) (wb : WS) : WS := fun D ρ => wi ρ fun xs ρ1 => wLoop g wb D xs ρ1
theorem sw_for {wi : WI} {g : WG} {wb : WS} (hp : PassesOwn (model X.prog X.w) X.A X.env X.xe) (hc : X.calm = true) (hi : IW X tg iter wi) (hg : GW X tg g) (hb : SWs X body wb)
    (hs : ∀ x, foldedSetIterable iter X.env x = pure x := by intro _; rfl) : SW X (.For tg iter body [] pos) (wFor wi g wb) := by
  obtain ⟨ti, i1, i2⟩ := hi.ex
  obtain ⟨tg', g1, g2⟩ := hg.ex
  obtain ⟨tb, b1, b2⟩ := hb.ex
  refine ⟨_, ps_for hp hc i1 g1 b1 hs, fun S σ H ρ D E R h k => ?_⟩
  refine i2 S σ H ρ _ _ R h fun S1 H1 J xs ρ1 R1 s1 wk h1 => ?_
  refine ⟨fun i m σ H => ∃ S' ρ', SLe S1 S' ∧ Rep X.K S' σ H ρ' ∧ i ≤ xs.length ∧ m = xs.length - i ∧ wLoop g wb D (xs.drop i) ρ', ⟨xs.length, S1, ρ1, SLe.refl S1, R1, Nat.zero_le _, by simp, by simpa using h1⟩, ?_⟩
  rintro i m σ2 H2 ⟨S2, ρ2, s2, R2, hi, rfl, h2⟩
  obtain ⟨w1, w2, w3⟩ := wk S2 σ2 H2 ρ2 s2 R2
  by_cases hlt : i < xs.length
  · right
    refine ⟨w1 i hlt, fun σ' H' => ∃ S' ρ', SLe S1 S' ∧ Rep X.K S' σ' H' ρ' ∧ wLoop g wb D (xs.drop (i + 1)) ρ', fun σ' H' ⟨S', ρ', a1, a2, a3⟩ => ⟨xs.length - (i + 1), by omega, S', ρ', a1, a2, hlt, rfl, a3⟩, fun v H3 y => ?_⟩
    obtain ⟨S3, R3, s3, i3⟩ := w3 i v H3 xs[i] (List.getElem?_eq_getElem hlt) y
    rw [List.drop_eq_getElem_cons hlt] at h2
    refine g2 S3 σ2 H3 ρ2 v _ _ _ R3 i3 h2 fun S4 σ4 H4 ρ4 s4 R4 h4 => ?_
    have s14 : SLe S1 S4 := s2.trans (s3.le.trans s4)
    exact b2 S4 σ4 H4 ρ4 _ _ R4 h4 ⟨fun S' σ' H' ρ' s R' h' => ⟨S', ρ', s14.trans s, R', h'⟩, (k.le (s1.le.trans s14)).rt, (k.le (s1.le.trans s14)).nx, fun S' σ' H' ρ' s R' h' => ⟨S', ρ', s14.trans s, R', h'⟩⟩
  · left
    have e : i = xs.length := by omega
    subst e
    rw [List.drop_length] at h2
    exact ⟨w2, k.nx S2 σ2 H2 ρ2 (s1.le.trans s2) R2 h2⟩
end
end NL

/-! NL3i: what a for walks: any list, tuple, text; ranges; zip and enumerate of these. -/
namespace NL
open PySem PySem.Spec PyProof.Rows L2

/-! ### one source -/
def itemsOf : PV → Option (List PV)
  | .tup xs => some xs
  | .lst xs => some xs
  | .str cs => some (cs.map fun c => .str [c])
  | _ => none
/-- a worth as a frozen value -/
def fixR (r : Res) (ρ : Sls) : Option (PV × Sls) := match r with
  | .sh x => some (x, ρ)
  | .at j => match ρ[j]? with
    | some (.own o) => some (o.pv, ρ.set j (.sh o.pv))
    | _ => none
theorem Rep.fix {K : PySem.W.Frag} {S : Gh} {σ : L2.St} {H : Hp} {ρ ρ' : Sls} {r : Res} {v : V} {x : PV} (R : Rep K S σ H ρ) (h : ResAt K S σ v r) (e : fixR r ρ = some (x, ρ')) :
    ∃ S', Rep K S' σ H ρ' ∧ Stp S σ H ρ S' H ρ' ∧ Is K S'.G v x := by
  cases r with
  | sh y => cases (Option.some.inj e); exact ⟨S, R, Stp.refl S σ H ρ, h⟩
  | «at» j =>
    unfold fixR at e
    dsimp only at e
    split at e
    · rename_i o q
      cases (Option.some.inj e)
      obtain ⟨p, S', e1, R', le, i2⟩ := R.freezeSlot q
      have h' : σ[j]? = some (some v) := h
      rw [e1] at h'
      cases (Option.some.inj (Option.some.inj h'))
      exact ⟨S', R', le, i2⟩
    · cases e
def wIter (w : WE) : WI := fun ρ post => w ρ fun r ρ1 => oB (fixR r ρ1) fun q => oB (itemsOf q.1) fun xs => post xs q.2
def iAny (K : PySem.W.Frag) (te : TE) : TI := fun σ H R => te σ H fun v H1 => (∃ a, v = .ref a ∧ (∃ xs, SqL K H1 a xs) ∧ R (Itl K a) H1) ∨ (∃ a, v = .ref a ∧ (∃ xs, SqT K H1 a xs) ∧ R (Itt K a) H1) ∨ ∃ z, v = .str z ∧ R (Its z) H1
theorem pi_any {X : Cx} {tg l : Expr} {tl : TE} (hl : PE X l tl) : PI X tg l (iAny X.K tl) := by
  refine ⟨fun pins s σ H R I h => ?_⟩
  refine thn (hl.run pins s σ H _ I h) fun v s1 ⟨x, H1, I1, r1, q1⟩ => ?_
  rcases q1 with ⟨a, e, ⟨xs, hq⟩, q⟩ | ⟨a, e, ⟨xs, hq⟩, q⟩ | ⟨z, e, q⟩
  · subst e
    cases r1
    obtain ⟨its, rv, p, hz⟩ := I1.list hq
    refine wpAny_pyIter_list p.isList ?_
    refine ⟨s1.heap.objs.size, [s1.heap.objs.size], _, _, H1, rfl, I1.kept (t' := s1.toks) fun b o e => Heap.get?_push_of_some _ e, turn_list a _, ⟨_, Heap.get?_push_size _ rfl, rfl, rfl⟩, fun b hb => ?_, q⟩
    have e : b = s1.heap.objs.size := by simpa using hb
    subst e
    exact I1.fpOk (Nat.le_refl _) (I1.hok.fresh (Nat.le_refl _))
  · subst e
    cases r1
    obtain ⟨its, rv, p, hz⟩ := I1.tuple hq
    refine wpAny_pyIter_tuple (show s1.heap.IsTuple a its.toArray from p) ?_
    refine ⟨s1.heap.objs.size, [s1.heap.objs.size], _, _, H1, rfl, I1.kept (t' := s1.toks) fun b o e => Heap.get?_push_of_some _ e, turn_tuple a _, ⟨_, Heap.get?_push_size _ rfl, rfl, rfl⟩, fun b hb => ?_, q⟩
    have e : b = s1.heap.objs.size := by simpa using hb
    subst e
    exact I1.fpOk (Nat.le_refl _) (I1.hok.fresh (Nat.le_refl _))
  · subst e
    obtain ⟨t, rfl⟩ := r1
    cases ha : z.cps.all (· < 128)
    · exact wpAny_pyIter_wide ha (pi_one (tk := s1.toks) I1 _ (turn_str _ z t "str_iterator" (.inr rfl)) ⟨_, Heap.get?_push_size _ rfl, rfl, rfl⟩ q)
    · exact wpAny_pyIter_ascii ha (pi_one (tk := s1.toks) I1 _ (turn_str _ z t "str_ascii_iterator" (.inl rfl)) ⟨_, Heap.get?_push_size _ rfl, rfl, rfl⟩ q)
section
variable {K : PySem.W.Frag} {S : Gh}
theorem walk_l {a : Addr} {vs : List V} {xs : List PV} (h : SqL K S.G a vs) (l : IsL K S.G vs xs) : WalkW K S (Itl K a) xs := fun S' σ H ρ s R => by
  have hq : SqL K H a vs := R.gh.sql (s.G.sql h)
  have hl := l.len
  refine ⟨fun i hi => ⟨vs, vs[i], hq, by simp [hl, hi]⟩, ⟨vs, hq, by omega⟩, fun i v H' x e y => ?_⟩
  obtain ⟨rfl, y⟩ := y
  obtain ⟨v', e1, e2⟩ := l.get e
  have : v' = v := Option.some.inj (e1.symm.trans (y vs hq))
  subst this
  exact ⟨S', R, Stp.refl S' σ _ ρ, e2.mono s.G⟩
theorem walk_t {a : Addr} {vs : List V} {xs : List PV} (h : SqT K S.G a vs) (l : IsL K S.G vs xs) : WalkW K S (Itt K a) xs := fun S' σ H ρ s R => by
  have hq : SqT K H a vs := R.gh.sqt (s.G.sqt h)
  have hl := l.len
  refine ⟨fun i hi => ⟨vs, vs[i], hq, by simp [hl, hi]⟩, ⟨vs, hq, by omega⟩, fun i v H' x e y => ?_⟩
  obtain ⟨rfl, y⟩ := y
  obtain ⟨v', e1, e2⟩ := l.get e
  have : v' = v := Option.some.inj (e1.symm.trans (y vs hq))
  subst this
  exact ⟨S', R, Stp.refl S' σ _ ρ, e2.mono s.G⟩
theorem is_sign {G : Hp} {cs : List Nat} (h2 : ∀ c ∈ cs, c < 0x110000) {c : Nat} (hc : c ∈ cs) : Is K G (.str ⟨#[c]⟩) (.str [c]) :=
  Is.str' [c] (le_line (by show 1 ≤ 100000; decide)) (fun d hd => by rw [List.mem_singleton.mp hd]; exact h2 c hc)
theorem walk_s {cs : List Nat} (h2 : ∀ c ∈ cs, c < 0x110000) : WalkW K S (Its ⟨cs.toArray⟩) (cs.map fun c => .str [c]) := fun S' σ H ρ s R => by
  refine ⟨fun i hi => by show i < cs.toArray.size; simpa using hi, by show cs.toArray.size ≤ _; simp, fun i v H' x e y => ?_⟩
  obtain ⟨rfl, c, hc, rfl⟩ := y
  rw [List.getElem?_map] at e
  have hc' : cs[i]? = some c := by simpa using hc
  rw [hc'] at e
  cases (Option.some.inj e)
  exact ⟨S', R, Stp.refl S' σ _ ρ, is_sign h2 (List.mem_of_getElem? hc')⟩
end
theorem iw_any {X : Cx} {tg e : Expr} {w : WE} (h : EW X e w) : IW X tg e (wIter w) := by
  obtain ⟨t, h1, h2⟩ := h.ex
  refine ⟨_, pi_any h1, fun S σ H ρ R post Rp hw k => h2 S σ H ρ _ _ Rp hw fun S1 H1 v1 r1 ρ1 R1 s1 e1 q => ?_⟩
  obtain ⟨⟨x, ρ2⟩, ex, q⟩ := oB_ex q
  obtain ⟨S2, R2, le, i2⟩ := R1.fix e1 ex
  obtain ⟨xs, exs, q⟩ := oB_ex q
  have s2 := s1.trans le
  cases x with
  | tup ys =>
    cases (Option.some.inj exs)
    obtain ⟨a, vs, rfl, hq, l⟩ := i2.tup_iff
    exact .inr (.inl ⟨a, rfl, ⟨vs, R2.gh.sqt hq⟩, k S2 H1 _ _ ρ2 R2 s2 (walk_t hq l) q⟩)
  | lst ys =>
    cases (Option.some.inj exs)
    obtain ⟨a, vs, rfl, hq, l⟩ := i2.lst_iff
    exact .inl ⟨a, rfl, ⟨vs, R2.gh.sql hq⟩, k S2 H1 _ _ ρ2 R2 s2 (walk_l hq l) q⟩
  | str cs =>
    cases (Option.some.inj exs)
    obtain ⟨rfl, hl, h2⟩ := i2.str_iff
    exact .inr (.inr ⟨_, rfl, k S2 H1 _ _ ρ2 R2 s2 (walk_s h2) q⟩)
  | _ => cases exs

/-! ### range -/
def rng (lo hi : Int) : List PV := (List.range (hi - lo).toNat).map fun (i : Nat) => PV.int (lo + i)
def bd62 (i : Int) : Prop := -(2 ^ 62) ≤ i ∧ i < 2 ^ 62
def wRng1 (wa : WA) : WI := fun ρ post => wa ρ fun rs ρ1 => match rs with
  | [.sh (.int n)] => bd62 n ∧ post (rng 0 n) ρ1
  | _ => False
def wRng2 (wa : WA) : WI := fun ρ post => wa ρ fun rs ρ1 => match rs with
  | [.sh (.int a), .sh (.int n)] => bd62 a ∧ bd62 n ∧ post (rng a n) ρ1
  | _ => False
theorem walk_r {K : PySem.W.Frag} {S : Gh} (lo hi : Int) : WalkW K S (Itr lo (hi - lo).toNat) (rng lo hi) := fun S' σ H ρ s R => by
  have hl : (rng lo hi).length = (hi - lo).toNat := by simp [rng]
  refine ⟨fun i h => by rw [hl] at h; exact h, by rw [hl]; exact Nat.le_refl _, fun i v H' x e y => ?_⟩
  obtain ⟨rfl, rfl⟩ := y
  unfold rng at e
  rw [List.getElem?_map] at e
  cases q : (List.range (hi - lo).toNat)[i]? with
  | none => rw [q] at e; cases e
  | some j =>
    rw [q] at e
    cases (Option.some.inj e)
    have : i = j := by
      obtain ⟨h1, h2⟩ := List.getElem?_eq_some_iff.mp q
      rw [List.getElem_range] at h2; exact h2
    subst this
    exact ⟨S', R, Stp.refl S' σ _ ρ, .int _⟩
section
variable {X : Cx} {tg a b : Expr} {p pos : Pos}
theorem iw_range1 {wa : WA} (hm : X.mg "range" = none) (ha : AW X [a] wa) (hg : Gl X "range" := by rfl) (hs : starEach [a] X.env = [(false, eval a X.env)] := by rfl) : IW X tg (.Call (.Name "range" p) [a] [] pos) (wRng1 wa) := by
  obtain ⟨t, h1, h2⟩ := ha.ex
  refine ⟨_, pi_range1 hg hm h1 hs, fun S σ H ρ R post Rp hw k => h2 S σ H ρ _ _ Rp hw fun S1 H1 vs rs ρ1 R1 s1 e1 q => ?_⟩
  split at q
  · rename_i n
    obtain ⟨⟨b1, b2⟩, q⟩ := q
    cases e1 with
    | cons i l =>
      cases l
      rename_i v1
      have e : v1 = .int n := Is.int_iff i
      subst e
      have w := walk_r (K := X.K) (S := S1) 0 n
      rw [Int.sub_zero] at w
      exact ⟨n, rfl, b1, b2, k S1 H1 _ _ ρ1 R1 s1 w q⟩
  · exact q.elim
theorem iw_range2 {wa : WA} (hm : X.mg "range" = none) (ha : AW X [a, b] wa) (hg : Gl X "range" := by rfl) (hs : starEach [a, b] X.env = [(false, eval a X.env), (false, eval b X.env)] := by rfl) (hs2 : starEach [b] X.env = [(false, eval b X.env)] := by rfl) :
    IW X tg (.Call (.Name "range" p) [a, b] [] pos) (wRng2 wa) := by
  obtain ⟨t, h1, h2⟩ := ha.ex
  refine ⟨_, pi_range2 hg hm h1 hs hs2, fun S σ H ρ R post Rp hw k => h2 S σ H ρ _ _ Rp hw fun S1 H1 vs rs ρ1 R1 s1 e1 q => ?_⟩
  split at q
  · rename_i n m
    obtain ⟨⟨b1, b2⟩, ⟨b3, b4⟩, q⟩ := q
    cases e1 with
    | cons i l =>
      cases l with
      | cons i' l =>
        cases l
        rename_i v1 v2
        have e : v1 = .int n := Is.int_iff i
        have e' : v2 = .int m := Is.int_iff i'
        subst e e'
        exact ⟨n, m, rfl, ⟨b1, b2, b3, b4⟩, k S1 H1 _ _ ρ1 R1 s1 (walk_r n m) q⟩
  · exact q.elim
end
end NL

/-! NL3z: zip of any two of lists, tuples, texts. -/
namespace NL
open PySem PySem.Spec PyProof.Rows L2

/-- a source: a list, a tuple, a text -/
inductive Srk where
  | l (a : Addr) | t (a : Addr) | s (x : Str)
def signs (x : Str) : List V := x.cps.toList.map fun c => V.str ⟨#[c]⟩
def Srk.has (K : PySem.W.Frag) (H : Hp) : Srk → List V → Prop
  | .l a, vs => SqL K H a vs
  | .t a, vs => SqT K H a vs
  | .s x, vs => vs = signs x
def Srk.st (k : Srk) (tk : Tok) (it : Addr) (i : Nat) (h : Heap) : Prop := match k with
  | .l a => h.IsListIter it a i
  | .t a => h.IsTupleIter it a i
  | .s x => h.IsStrIter it (strIterType x) x tk i
def Srk.low (k : Srk) (N : Nat) : Prop := match k with
  | .l a => a < N
  | .t a => a < N
  | .s _ => True
theorem Srk.st_at {k : Srk} {tk : Tok} {it : Addr} {i : Nat} {h h' : Heap} (s : k.st tk it i h) (e : ∀ o, h.get? it = some o → h'.get? it = some o) : k.st tk it i h' := by
  cases k with
  | l a => exact Heap.IsListIter.at s e
  | t a => exact (show h.IsTupleIter it a i from s).at e
  | s x => obtain ⟨o, ho, r⟩ := s; exact ⟨o, e o ho, r⟩
theorem Srk.st_obj {k : Srk} {tk : Tok} {it : Addr} {i : Nat} {h : Heap} (s : k.st tk it i h) : ∃ o, h.get? it = some o ∧ ∀ v, o.data ≠ .cell v := by
  cases k with
  | l a => obtain ⟨o, e, c, d⟩ := (show h.IsListIter it a i from s); exact ⟨o, e, fun v z => by rw [d] at z; cases z⟩
  | t a => obtain ⟨o, e, c, d⟩ := (show h.IsTupleIter it a i from s); exact ⟨o, e, fun v z => by rw [d] at z; cases z⟩
  | s x => obtain ⟨o, e, c, d⟩ := s; exact ⟨o, e, fun v z => by rw [d] at z; cases z⟩
/-- how it draws -/
structure SrkD (X : Cx) (k : Srk) (vs : List V) (tk : Tok) (N it : Addr) (h : Heap) : Prop where
  ex : ∃ (fp : List Addr) (P : Nat → Value → Prop) (St : Nat → Heap → Prop), Draws X.prog X.w X.A.in1 it (it :: fp) vs.length P St ∧ (∀ b ∈ fp, b < N) ∧
    (∀ i, k.st tk it i h → St i h) ∧ (∀ i h', St i h' → k.st tk it i h') ∧ ∀ i u, P i u → ∃ v, vs[i]? = some v ∧ RelV v u
theorem Srk.draws {X : Cx} {pins : List (Addr × Obj)} {σ : L2.St} {H : Hp} {s : Shared} (I : Inv X pins σ H s) (hc : X.calm = true) {k : Srk} {vs : List V} (tk : Tok) {N it : Addr} (h : k.has X.K H vs) (lo : k.low N) (hit : N ≤ it) : SrkD X k vs tk N it s.heap := by
  have hh : X.A.in1.handled = none := I.ok.hd hc
  cases k with
  | l a =>
    obtain ⟨its, rv, p, hz⟩ := I.list h
    have lo' : a < N := lo
    have hne : a ≠ it := Nat.ne_of_lt (Nat.lt_of_lt_of_le lo' hit)
    have D := Draws.list (prog := X.prog) (w := X.w) hh it a hne its.toArray
    have hl := rv.length
    refine ⟨[a], fun i v => its.toArray[i]? = some v, fun i h => h.IsListIter it a i ∧ h.IsList a its.toArray, by rw [hl, ← List.size_toArray]; exact D, fun b hb => by rw [List.mem_singleton.mp hb]; exact lo', fun i st => ⟨st, p.isList⟩, fun i h' st => st.1, fun i u hu => ?_⟩
    have hu' : its[i]? = some u := by simpa using hu
    have hi : i < vs.length := by rw [hl]; exact (List.getElem?_eq_some_iff.mp hu').1
    obtain ⟨w, e1, e2⟩ := rv.get (List.getElem?_eq_getElem hi)
    rw [hu'] at e1
    cases (Option.some.inj e1)
    exact ⟨_, List.getElem?_eq_getElem hi, e2⟩
  | t a =>
    obtain ⟨its, rv, p, hz⟩ := I.tuple h
    have lo' : a < N := lo
    have hne : a ≠ it := Nat.ne_of_lt (Nat.lt_of_lt_of_le lo' hit)
    have D := Draws.tuple (prog := X.prog) (w := X.w) hh it a hne its.toArray
    have hl := rv.length
    refine ⟨[a], fun i v => its.toArray[i]? = some v, fun i h => h.IsTupleIter it a i ∧ h.IsTuple a its.toArray, by rw [hl, ← List.size_toArray]; exact D, fun b hb => by rw [List.mem_singleton.mp hb]; exact lo', fun i st => ⟨st, p⟩, fun i h' st => st.1, fun i u hu => ?_⟩
    have hu' : its[i]? = some u := by simpa using hu
    have hi : i < vs.length := by rw [hl]; exact (List.getElem?_eq_some_iff.mp hu').1
    obtain ⟨w, e1, e2⟩ := rv.get (List.getElem?_eq_getElem hi)
    rw [hu'] at e1
    cases (Option.some.inj e1)
    exact ⟨_, List.getElem?_eq_getElem hi, e2⟩
  | s x =>
    have D := Draws.text (prog := X.prog) (w := X.w) hh it x tk
    have e : vs = signs x := h
    subst e
    refine ⟨[], fun i v => ∃ c u, x.cps[i]? = some c ∧ v = .str ⟨#[c]⟩ u, fun i h => h.IsStrIter it (strIterType x) x tk i, by rw [show (signs x).length = x.cps.size by simp [signs]]; exact D, fun b hb => absurd hb (by simp), fun i st => st, fun i h' st => st, fun i u hu => ?_⟩
    obtain ⟨c, t, hc', rfl⟩ := hu
    refine ⟨.str ⟨#[c]⟩, ?_, ⟨t, rfl⟩⟩
    unfold signs
    rw [List.getElem?_map, Array.getElem?_toList, hc'] <;> rfl

theorem has_inj {X : Cx} {pins : List (Addr × Obj)} {σ : L2.St} {H : Hp} {s : Shared} (I : Inv X pins σ H s) {k : Srk} {vs ws : List V} (h1 : k.has X.K H vs) (h2 : k.has X.K H ws) : vs = ws := by
  cases k with
  | l a => exact I.list_inj h1 h2
  | t a => exact I.tuple_inj h1 h2
  | s x => exact (show vs = signs x from h1).trans (show ws = signs x from h2).symm
/-- the sources as they stand at each turn, the items in new pairs -/
def ItZ (K : PySem.W.Frag) (k1 k2 : Srk) : It :=
  ⟨fun i H => ∃ vs ws, k1.has K H vs ∧ k2.has K H ws ∧ i < vs.length ∧ i < ws.length,
    fun i H v H' => ∃ T x y, v = .ref T ∧ H T = none ∧ H' = upd H T (.tup [x, y]) ∧ (∀ vs, k1.has K H vs → vs[i]? = some x) ∧ ∀ ws, k2.has K H ws → ws[i]? = some y,
    fun i H => ∃ vs ws, k1.has K H vs ∧ k2.has K H ws ∧ i = min vs.length ws.length⟩
theorem turn_Z {P : Program} {w : World} {K : PySem.W.Frag} {elts : List Expr} {kk : Nat} {tpos : Pos} {k1 k2 : Srk} {t1 t2 : Tok} (N : Nat) (l1 : k1.low N) (l2 : k2.low N) :
    Turn P w K (.Tuple elts kk tpos) (ItZ K k1 k2) [N + 4, N + 2, N + 3, N, N + 1] (N + 4)
      (fun i h => IsZip h (N + 4) (N + 2) (N + 3) .none ∧ IsTupOf2 h (N + 2) (.ref N) (.ref (N + 1)) ∧ (∃ a1 a2, IsTupOf2 h (N + 3) a1 a2) ∧ k1.st t1 N i h ∧ k2.st t2 (N + 1) i h) where
  mem := by simp
  obj := fun i h st b hb => by
    obtain ⟨hz, hT, ⟨a1, a2, hO⟩, s1, s2⟩ := st
    rcases (by simpa using hb : b = N + 4 ∨ b = N + 2 ∨ b = N + 3 ∨ b = N ∨ b = N + 1) with e | e | e | e | e
    · rw [e]; exact ⟨_, hz, fun v q => nomatch q⟩
    · rw [e]; exact ⟨_, hT, fun v q => nomatch q⟩
    · rw [e]; exact ⟨_, hO, fun v q => nomatch q⟩
    · rw [e]; exact (Srk.st_obj (k := k1) (tk := t1) s1)
    · rw [e]; exact (Srk.st_obj (k := k2) (tk := t2) s2)
  keep := fun i h h' st k => by
    obtain ⟨hz, hT, ⟨a1, a2, hO⟩, s1, s2⟩ := st
    exact ⟨k _ (by simp) _ hz, k _ (by simp) _ hT, ⟨a1, a2, k _ (by simp) _ hO⟩, Srk.st_at (k := k1) (tk := t1) s1 fun o e => k _ (by simp) o e, Srk.st_at (k := k2) (tk := t2) s2 fun o e => k _ (by simp) o e⟩
  item := by
    intro X hP hw hK hc i pins s σ H E I hf st hg
    subst hP hw hK
    obtain ⟨hz, hT, hO, s1, s2⟩ := st
    obtain ⟨vs, ws, h1, h2, i1, i2⟩ := hg
    obtain ⟨fp1, P1, St1, D1, f1, a1, b1, c1⟩ := (Srk.draws I hc t1 h1 l1 (Nat.le_refl N)).ex
    obtain ⟨fp2, P2, St2, D2, f2, a2, b2, c2⟩ := (Srk.draws I hc t2 h2 l2 (Nat.le_add_right N 1)).ex
    have W := GoesN.zip2 (elts := elts) (x1 := kk) (pos := tpos) (zip_sep2 f1 f2) D1 D2
    refine W.goes i s _ _ (by omega) ⟨hz, hT, hO, a1 i s1, a2 i s2⟩ fun v h' tk hY st' hk _ => ?_
    obtain ⟨T, x, y, rfl, hn, px, py, tT⟩ := hY
    obtain ⟨xv, ex, rx⟩ := c1 i x px
    obtain ⟨yv, ey, ry⟩ := c2 i y py
    have hfr : ∀ b ∈ [N + 4, N + 2, N + 3, N, N + 1], b ≠ T := fun b hb z => by
      have hlt : b < s.heap.objs.size := by
        rcases (by simpa using hb : b = N + 4 ∨ b = N + 2 ∨ b = N + 3 ∨ b = N ∨ b = N + 1) with e | e | e | e | e
        · rw [e]; exact Heap.lt_size hz
        · rw [e]; exact Heap.lt_size hT
        · obtain ⟨_, _, q⟩ := hO; rw [e]; exact Heap.lt_size q
        · obtain ⟨_, q, _⟩ := (Srk.st_obj (k := k1) (tk := t1) s1); rw [e]; exact Heap.lt_size q
        · obtain ⟨_, q, _⟩ := (Srk.st_obj (k := k2) (tk := t2) s2); rw [e]; exact Heap.lt_size q
      rw [z] at hlt
      exact absurd (Nat.lt_of_lt_of_le hlt hn) (Nat.lt_irrefl _)
    have new : ObjOk X.prog X.w (upd H T (.tup [xv, yv])) h' T (.tup [xv, yv]) := ⟨by show 2 ≤ sizeLine; decide, [x, y], .cons rx (.cons ry .nil), tT⟩
    have I1 : Inv X pins σ (upd H T (.tup [xv, yv])) { s with heap := h', toks := tk } :=
      I.turnedNew (ch := [N + 4, N + 2, N + 3, N, N + 1]) (fun b ob hb q => hk b ob (fun z => hb (by
        rcases (by simpa using z : b = N + 4 ∨ b = N + 3 ∨ b = N ∨ b = N + 1) with e | e | e | e <;> simp [e])) q) hf hn new
    refine ⟨.ref T, _, I1, rfl, ⟨T, xv, yv, rfl, I.hok.fresh hn, rfl, fun vs' h' => by rw [has_inj I h' h1]; exact ex, fun ws' h' => by rw [has_inj I h' h2]; exact ey⟩, ⟨st'.1, st'.2.1, st'.2.2.1, b1 _ _ st'.2.2.2.1, b2 _ _ st'.2.2.2.2⟩, fun b hb => ?_⟩
    rw [upd_ne (hfr b hb)]
    exact (hf b hb).1
  done := by
    intro X hP hw hK hc i pins s σ H E I hf st hg
    subst hP hw hK
    obtain ⟨hz, hT, hO, s1, s2⟩ := st
    obtain ⟨vs, ws, h1, h2, e⟩ := hg
    subst e
    obtain ⟨fp1, P1, St1, D1, f1, a1, b1, c1⟩ := (Srk.draws I hc t1 h1 l1 (Nat.le_refl N)).ex
    obtain ⟨fp2, P2, St2, D2, f2, a2, b2, c2⟩ := (Srk.draws I hc t2 h2 l2 (Nat.le_add_right N 1)).ex
    have W := GoesN.zip2 (elts := elts) (x1 := kk) (pos := tpos) (zip_sep2 f1 f2) D1 D2
    refine W.stops s (fun s1 => Inv X pins σ H s1) _ ⟨hz, hT, hO, a1 _ s1, a2 _ s2⟩ fun h' tk hk _ => ?_
    refine I.step (g' := s.gens) (d' := s.drawn) (ch := [N + 4, N + 2, N + 3, N, N + 1]) (fun b hb => ⟨(hf b hb).2.2.2.1, (hf b hb).2.1, (hf b hb).2.2.2.2.1, (hf b hb).2.2.2.2.2⟩)
      (fun b o _ _ hc' e _ => hk b o (fun z => hc' (by rcases (by simpa using z : b = N + 4 ∨ b = N + 3 ∨ b = N ∨ b = N + 1) with q | q | q | q <;> simp [q])) e)
      (fun b o _ _ hc' e _ => ⟨o.slots, hk b o (fun z => hc' (by rcases (by simpa using z : b = N + 4 ∨ b = N + 3 ∨ b = N ∨ b = N + 1) with q | q | q | q <;> simp [q])) e⟩) (fun _ _ _ _ n => n)
      (fun b o hc' e => ⟨o, hk b o (fun z => hc' (by rcases (by simpa using z : b = N + 4 ∨ b = N + 3 ∨ b = N ∨ b = N + 1) with q | q | q | q <;> simp [q])) e⟩) (fun _ _ e => e) (fun _ _ _ e => e) (fun b ps e => ⟨#[], by rw [e]; simp⟩) (fun m hm => ?_) (fun b u e => ?_) I.bare
    · obtain ⟨o, es, ep, ho, r⟩ := hm
      refine ⟨o, es, ep, hk _ o (fun z => ?_) ho, r⟩
      have z' : X.env.locals ∈ [N + 4, N + 2, N + 3, N, N + 1] := by rcases (by simpa using z : X.env.locals = N + 4 ∨ X.env.locals = N + 3 ∨ X.env.locals = N ∨ X.env.locals = N + 1) with q | q | q | q <;> simp [q]
      exact (hf _ z').2.1 rfl
    · have nit : ∀ b u, H b = some u → b ∉ [N + 4, N + 3, N, N + 1] := fun b u e z => by
        have z' : b ∈ [N + 4, N + 2, N + 3, N, N + 1] := by rcases (by simpa using z : b = N + 4 ∨ b = N + 3 ∨ b = N ∨ b = N + 1) with q | q | q | q <;> simp [q]
        rw [(hf b z').1] at e; cases e
      refine (I.hok b u e).stay (fun c v hc' q => hk c v ?_ q) (fun _ q => q) fun _ _ q => q
      rcases hc' with z | z
      · rw [z]; exact nit b u e
      · exact nit c _ z
  self := fun A i s Q E st h => wpAny_pyIter_zip st.1 h

/-- what stands for a value as a source -/
def srkOf (K : PySem.W.Frag) (H : Hp) (v : V) (k : Srk) (vs : List V) : Prop := k.has K H vs ∧ match k with
  | .l a => v = .ref a
  | .t a => v = .ref a
  | .s x => v = .str x
theorem Srk.begins {X : Cx} {pins : List (Addr × Obj)} {σ : L2.St} {H : Hp} {s : Shared} (I : Inv X pins σ H s) {v : V} {u : Value} {k : Srk} {vs : List V} (r : RelV v u) (h : srkOf X.K H v k vs) :
    ∃ (o : Obj) (HB : Heap → Prop) (tk : Tok), Begins u o HB ∧ HB s.heap ∧ k.low s.heap.objs.size ∧ ∀ h' it, h'.get? it = some o → k.st tk it 0 h' := by
  obtain ⟨h, e⟩ := h
  cases k with
  | l a =>
    have e : v = .ref a := e
    subst e
    cases r
    obtain ⟨its, rv, p, hz⟩ := I.list h
    exact ⟨_, _, 0, begins_list a its.toArray, p.isList, p.lt, fun h' it q => ⟨_, q, rfl, rfl⟩⟩
  | t a =>
    have e : v = .ref a := e
    subst e
    cases r
    obtain ⟨its, rv, p, hz⟩ := I.tuple h
    exact ⟨_, _, 0, begins_tuple a its.toArray, p, p.lt, fun h' it q => ⟨_, q, rfl, rfl⟩⟩
  | s x =>
    have e : v = .str x := e
    subst e
    obtain ⟨t, rfl⟩ := r
    exact ⟨_, _, t, begins_text x t, trivial, trivial, fun h' it q => ⟨_, q, rfl, rfl⟩⟩
def iZS (K : PySem.W.Frag) (ta : TA) : TI := fun σ H R => ta σ H fun vs H1 => ∃ v1 v2 k1 k2 us ws, vs = [v1, v2] ∧ srkOf K H1 v1 k1 us ∧ srkOf K H1 v2 k2 ws ∧ R (ItZ K k1 k2) H1
theorem pi_zipS {X : Cx} {e e2 : Expr} {ta : TA} {p pos tpos : Pos} {elts : List Expr} {kk : Nat} (hg : Gl X "zip") (hm : X.mg "zip" = none) (ha : PA X [e, e2] ta)
    (hs : starEach [e, e2] X.env = (false, eval e X.env) :: starEach [e2] X.env := by rfl) (hpl : (backTo pos (starEach [e2] X.env)).any (·.1) = false := by rfl) :
    PI X (.Tuple elts kk tpos) (.Call (.Name "zip" p) [e, e2] [] pos) (iZS X.K ta) := by
  refine ⟨fun pins s σ H R I h => ?_⟩
  refine Call_ (ld_blt I hg hm PyProof.Rows.boot_zip (PyProof.Rows.callWith_type1 (thn (ha.run pos pins s σ H _ I h) fun us s1 ⟨vs, H1, I1, r1, q1⟩ => ?_) hs hpl))
  obtain ⟨v1, v2, k1, k2, xs, ys, ex, hq1, hq2, q⟩ := q1
  subst ex
  obtain ⟨u1, u2, rfl, r1, r2⟩ := vals2 r1
  obtain ⟨o1, HB1, t1, B1, b1, l1, st1⟩ := Srk.begins I1 r1 hq1
  obtain ⟨o2, HB2, t2, B2, b2, l2, st2⟩ := Srk.begins I1 r2 hq2
  refine zip_begins2 B1 B2 b1 b2 fun h' hz hTI hTO h1 h2 hsz hk => wpAny_pyIter_zip hz ?_
  have I2 : Inv X pins σ H1 { s1 with heap := h' } := I1.kept (t' := s1.toks) hk
  refine ⟨s1.heap.objs.size + 4, [s1.heap.objs.size + 4, s1.heap.objs.size + 2, s1.heap.objs.size + 3, s1.heap.objs.size, s1.heap.objs.size + 1], _, _, H1, rfl, I2, turn_Z (t1 := t1) (t2 := t2) s1.heap.objs.size l1 l2, ⟨hz, hTI, ⟨_, _, hTO⟩, st1 _ _ h1, st2 _ _ h2⟩, fun c hcm => ?_, q⟩
  have e' : c = s1.heap.objs.size + 4 ∨ c = s1.heap.objs.size + 2 ∨ c = s1.heap.objs.size + 3 ∨ c = s1.heap.objs.size ∨ c = s1.heap.objs.size + 1 := by simpa using hcm
  have hle : s1.heap.objs.size ≤ c := by
    rcases e' with z | z | z | z | z
    · rw [z]; exact Nat.le_add_right _ _
    · rw [z]; exact Nat.le_add_right _ _
    · rw [z]; exact Nat.le_add_right _ _
    · rw [z]; exact Nat.le_refl _
    · rw [z]; exact Nat.le_add_right _ _
  exact I1.fpOk hle (I1.hok.fresh hle)

/-! ### over trees -/
def pairUp (xs ys : List PV) : List PV := (xs.zip ys).map fun p => PV.tup [p.1, p.2]
/-- both made frozen -/
def wZip (wa : WA) : WI := fun ρ post => wa ρ fun rs ρ1 => match rs with
  | [r1, r2] => oB (fixR r1 ρ1) fun q1 => oB (fixR r2 q1.2) fun q2 => oB (itemsOf q1.1) fun xs => oB (itemsOf q2.1) fun ys => post (pairUp xs ys) q2.2
  | _ => False
theorem src_of {K : PySem.W.Frag} {S : Gh} {v : V} {x : PV} {xs : List PV} (h : Is K S.G v x) (e : itemsOf x = some xs) :
    ∃ k vs, (∀ H, Sub S.G H → srkOf K H v k vs) ∧ IsL K S.G vs xs := by
  cases x with
  | tup ys =>
    cases (Option.some.inj e)
    obtain ⟨a, vs, rfl, hq, l⟩ := h.tup_iff
    exact ⟨.t a, vs, fun H s => ⟨s.sqt hq, rfl⟩, l⟩
  | lst ys =>
    cases (Option.some.inj e)
    obtain ⟨a, vs, rfl, hq, l⟩ := h.lst_iff
    exact ⟨.l a, vs, fun H s => ⟨s.sql hq, rfl⟩, l⟩
  | str cs =>
    cases (Option.some.inj e)
    obtain ⟨rfl, hl, h2⟩ := h.str_iff
    refine ⟨.s ⟨cs.toArray⟩, signs ⟨cs.toArray⟩, fun H s => ⟨rfl, rfl⟩, ?_⟩
    have : ∀ l : List Nat, (∀ c ∈ l, c < 0x110000) → IsL K S.G (l.map fun c => V.str ⟨#[c]⟩) (l.map fun c => PV.str [c]) := by
      intro l
      induction l with
      | nil => intro _; exact .nil
      | cons c l ih => intro hl; exact .cons (is_sign hl (List.mem_cons_self ..)) (ih fun d hd => hl d (List.mem_cons_of_mem _ hd))
    exact this cs h2
  | _ => cases e
theorem Rep.fix2 {K : PySem.W.Frag} {S : Gh} {σ : L2.St} {H : Hp} {ρ ρ1 ρ2 : Sls} {r1 r2 : Res} {v1 v2 : V} {x y : PV} (R : Rep K S σ H ρ) (h1 : ResAt K S σ v1 r1) (h2 : ResAt K S σ v2 r2) (e1 : fixR r1 ρ = some (x, ρ1)) (e2 : fixR r2 ρ1 = some (y, ρ2)) :
    ∃ S', Rep K S' σ H ρ2 ∧ Stp S σ H ρ S' H ρ2 ∧ Is K S'.G v1 x ∧ Is K S'.G v2 y := by
  obtain ⟨S1, R1, s1, i1⟩ := R.fix h1 e1
  obtain ⟨S2, R2, s2, i2⟩ := R1.fix (h2.mono s1.le) e2
  exact ⟨S2, R2, s1.trans s2, i1.mono s2.le.G, i2⟩
theorem iw_zip {X : Cx} {e e2 : Expr} {p pos tpos : Pos} {elts : List Expr} {kk : Nat} {wa : WA} (hm : X.mg "zip" = none) (ha : AW X [e, e2] wa) (hg : Gl X "zip" := by rfl)
    (hs : starEach [e, e2] X.env = (false, eval e X.env) :: starEach [e2] X.env := by rfl) (hpl : (backTo pos (starEach [e2] X.env)).any (·.1) = false := by rfl) : IW X (.Tuple elts kk tpos) (.Call (.Name "zip" p) [e, e2] [] pos) (wZip wa) := by
  obtain ⟨t, h1, h2⟩ := ha.ex
  refine ⟨_, pi_zipS hg hm h1 hs hpl, fun S σ H ρ R post Rp hw k => h2 S σ H ρ _ _ Rp hw fun S1 H1 vs rs ρ1 R1 s1 e1 q => ?_⟩
  split at q
  · rename_i r1 r2
    obtain ⟨⟨x, ρ2⟩, ex, q⟩ := oB_ex q
    obtain ⟨⟨y, ρ3⟩, ey, q⟩ := oB_ex q
    obtain ⟨xs, exs, q⟩ := oB_ex q
    obtain ⟨ys, eys, q⟩ := oB_ex q
    cases e1 with
    | cons i1 l1 =>
      cases l1 with
      | cons i2 l2 =>
        cases l2
        rename_i v1 v2
        obtain ⟨S2, R2, s2, j1, j2⟩ := R1.fix2 i1 i2 ex ey
        obtain ⟨k1, us, f1, m1⟩ := src_of j1 exs
        obtain ⟨k2, ws, f2, m2⟩ := src_of j2 eys
        refine ⟨v1, v2, k1, k2, us, ws, rfl, f1 H1 R2.gh, f2 H1 R2.gh, k S2 H1 _ _ ρ3 R2 (s1.trans s2) (fun S' σ' H' ρ' s R' => ?_) q⟩
        have g1 := (f1 H' (s.G.trans R'.gh)).1
        have g2 := (f2 H' (s.G.trans R'.gh)).1
        have n1 := m1.len
        have n2 := m2.len
        have hl : (pairUp xs ys).length = min us.length ws.length := by unfold pairUp; rw [List.length_map, List.length_zip, n1, n2]
        refine ⟨fun i hi => ⟨us, ws, g1, g2, by omega, by omega⟩, ⟨us, ws, g1, g2, hl⟩, fun i v H2 z ez yl => ?_⟩
        obtain ⟨T, a, b, rfl, hT, rfl, ya, yb⟩ := yl
        have qa := ya us g1
        have qb := yb ws g2
        obtain ⟨xa, e1', i1'⟩ := m1.getV qa
        obtain ⟨xb, e2', i2'⟩ := m2.getV qb
        have ez' : z = .tup [xa, xb] := by
          unfold pairUp at ez
          rw [List.getElem?_map, show (xs.zip ys)[i]? = some (xa, xb) from List.getElem?_zip_eq_some.mpr ⟨e1', e2'⟩] at ez
          exact (Option.some.inj ez).symm
        subst ez'
        obtain ⟨R3, s3⟩ := R'.freezeNew (o := .tup [a, b]) hT
        exact ⟨_, R3, s3, .tup (.of upd_same) (.cons (i1'.mono (s.G.trans s3.le.G)) (.cons (i2'.mono (s.G.trans s3.le.G)) .nil))⟩
  · exact q.elim
end NL

/-! NL3c: list comprehensions of one clause. -/
namespace NL
open PySem PySem.Spec PyProof.Rows L2

/-! ### canonical readings -/
def cE (K : PySem.W.Frag) (w : WE) : TE := fun σ H Q => ∃ (S : Gh) (ρ : Sls) (post : Res → Sls → Prop), Rep K S σ H ρ ∧ w ρ post ∧ ∀ S' H' v r ρ', Rep K S' σ H' ρ' → Stp S σ H ρ S' H' ρ' → ResAt K S' σ v r → post r ρ' → Q v H'
def cT (K : PySem.W.Frag) (w : WT) : TT := fun σ H Q => ∃ (S : Gh) (ρ : Sls) (post : Bool → Sls → Prop), Rep K S σ H ρ ∧ w ρ post ∧ ∀ S' H' b ρ', Rep K S' σ H' ρ' → Stp S σ H ρ S' H' ρ' → post b ρ' → Q b H'
theorem EW.pe {X : Cx} {e : Expr} {w : WE} (h : EW X e w) : PE X e (cE X.K w) := by
  obtain ⟨t, h1, h2⟩ := h.ex
  refine ⟨fun pins s σ H Q I q => ?_⟩
  obtain ⟨S, ρ, post, R, hw, k⟩ := q
  exact h1.run pins s σ H Q I (h2 S σ H ρ Q post R hw k)
theorem TW.pt {X : Cx} {e : Expr} {w : WT} (h : TW X e w) : PT X e (cT X.K w) := by
  obtain ⟨t, h1, h2⟩ := h.ex
  refine ⟨fun pins s σ H Q I q => ?_⟩
  obtain ⟨S, ρ, post, R, hw, k⟩ := q
  exact h1.run pins s σ H Q I (h2 S σ H ρ Q post R hw k)
/-- the tests of a clause: none or one -/
structure TsW (X : Cx) (ifs : List Expr) (w : WT) : Prop where
  pts : PTs X ifs (cT X.K w)
def wYes : WT := fun ρ post => post true ρ
theorem tsw_nil {X : Cx} : TsW X [] wYes := ⟨⟨fun pins s σ H Q I h => by
  obtain ⟨S, ρ, post, R, hw, k⟩ := h
  exact pts_nil.run pins s σ H Q I (k S H true ρ R (Stp.refl S σ H ρ) hw)⟩⟩
theorem tsw_one {X : Cx} {c : Expr} {w : WT} (h : TW X c w) : TsW X [c] w := ⟨pts_one h.pt⟩

/-! ### targets of a clause -/
inductive CTg where
  | one (j : Nat) | many (js : List Nat)
def gNames : List Nat → TGs
  | [] => gNil
  | j :: js => gCons (gName j) (gNames js)
def ctg (K : PySem.W.Frag) : CTg → TG
  | .one j => gName j
  | .many js => gTup K js.length (gNames js)
def CTg.slots : CTg → List Nat
  | .one j => [j]
  | .many js => js
def setMany : List Nat → List PV → Sls → Option Sls
  | [], [], ρ => some ρ
  | j :: js, x :: xs, ρ => setMany js xs (ρ.set j (.sh x))
  | _, _, _ => none
def setv : CTg → PV → Sls → Option Sls
  | .one j, x, ρ => some (ρ.set j (.sh x))
  | .many js, .tup xs, ρ => setMany js xs ρ
  | .many _, _, _ => none

/-- the same but at some slots -/
def SameBut (vs : List Nat) {α : Type} (a b : List α) : Prop := a.length = b.length ∧ ∀ k, k ∉ vs → a[k]? = b[k]?
theorem SameBut.set {α : Type} {vs : List Nat} {a b : List α} (h : SameBut vs a b) {j : Nat} (hj : j ∈ vs) (x : α) : SameBut vs (a.set j x) b :=
  ⟨by rw [List.length_set]; exact h.1, fun k hk => by rw [List.getElem?_set_ne (fun e => hk (by rw [← e]; exact hj))]; exact h.2 k hk⟩
theorem SameBut.refl {α : Type} (vs : List Nat) (a : List α) : SameBut vs a a := ⟨rfl, fun _ _ => rfl⟩
theorem SameBut.trans {α : Type} {vs : List Nat} {a b c : List α} (h : SameBut vs a b) (k : SameBut vs b c) : SameBut vs a c := ⟨h.1.trans k.1, fun i hi => (h.2 i hi).trans (k.2 i hi)⟩
theorem many_ok {K : PySem.W.Frag} {S : Gh} {H : Hp} {vs : List Nat} {Q : L2.St → Hp → Prop} : ∀ (js : List Nat) (us : List V) (xs : List PV) (σ : L2.St) (ρ ρ1 : Sls), (∀ j ∈ js, j ∈ vs) → Rep K S σ H ρ → IsL K S.G us xs → setMany js xs ρ = some ρ1 →
    (∀ σ1, Rep K S σ1 H ρ1 → SameBut vs σ1 σ → SameBut vs ρ1 ρ → Q σ1 H) → gNames js us σ H Q
  | [], _, [], σ, ρ, _, _, R, l, e, k => by
    cases l
    cases (Option.some.inj e)
    exact ⟨rfl, k σ R (.refl _ _) (.refl _ _)⟩
  | j :: js, _, x :: xs, σ, ρ, ρ1, hv, R, .cons i l, e, k => by
    refine ⟨_, _, rfl, many_ok js _ xs _ _ ρ1 (fun q hq => hv q (List.mem_cons_of_mem _ hq)) (R.setSh j i) l e fun σ1 R1 s1 s2 => ?_⟩
    exact k σ1 R1 (s1.trans ((SameBut.refl vs σ).set (hv j (List.mem_cons_self ..)) _)) (s2.trans ((SameBut.refl vs ρ).set (hv j (List.mem_cons_self ..)) _))
  | [], _, _ :: _, _, _, _, _, _, _, e, _ => by cases e
  | _ :: _, _, [], _, _, _, _, _, _, e, _ => by cases e
theorem ctg_ok {K : PySem.W.Frag} {S : Gh} {H : Hp} {vs : List Nat} {Q : L2.St → Hp → Prop} {T : CTg} {v : V} {x : PV} {σ : L2.St} {ρ ρ1 : Sls} (hv : ∀ j ∈ T.slots, j ∈ vs) (R : Rep K S σ H ρ) (i : Is K S.G v x) (e : setv T x ρ = some ρ1)
    (k : ∀ σ1, Rep K S σ1 H ρ1 → SameBut vs σ1 σ → SameBut vs ρ1 ρ → Q σ1 H) : ctg K T v σ H Q := by
  cases T with
  | one j =>
    cases (Option.some.inj e)
    have hj : j ∈ vs := hv j (by simp [CTg.slots])
    exact k _ (R.setSh j i) ((SameBut.refl vs σ).set hj _) ((SameBut.refl vs ρ).set hj _)
  | many js =>
    cases x with
    | tup xs =>
      obtain ⟨a, us, rfl, hq, l⟩ := i.tup_iff
      refine ⟨a, us, rfl, R.gh.sqt hq, ?_, many_ok js us xs σ ρ ρ1 hv R l e k⟩
      have : ∀ (js : List Nat) (xs : List PV) (ρ ρ1 : Sls), setMany js xs ρ = some ρ1 → js.length = xs.length := by
        intro js
        induction js with
        | nil => intro xs ρ ρ1 e; cases xs with
          | nil => rfl
          | cons _ _ => cases e
        | cons j js ih => intro xs ρ ρ1 e; cases xs with
          | nil => cases e
          | cons x xs => rw [List.length_cons, List.length_cons, ih xs _ _ e]
      rw [l.len]
      exact (this js xs ρ ρ1 e).symm
    | _ => cases e

/-- so many draws are left -/
def setN (n : Nat) (ρ : Sls) : Sls := ρ.map fun s => match s with
  | .res k _ => .res k n
  | s => s
theorem setN_get {m : Nat} {ρ : Sls} {i : Nat} {s : Sl} (h : (setN m ρ)[i]? = some s) : (∃ k n, ρ[i]? = some (.res k n) ∧ s = .res k m) ∨ (ρ[i]? = some s ∧ ∀ k n, s ≠ .res k n) := by
  unfold setN at h
  rw [List.getElem?_map] at h
  cases e : ρ[i]? with
  | none => rw [e] at h; cases h
  | some q =>
    rw [e] at h
    have h' := (Option.some.inj h).symm
    cases q with
    | res k n => exact .inl ⟨k, n, rfl, h'⟩
    | un => exact .inr ⟨by rw [h'], fun k n z => by rw [z] at h'; cases h'⟩
    | sh x => exact .inr ⟨by rw [h'], fun k n z => by rw [z] at h'; cases h'⟩
    | own o => exact .inr ⟨by rw [h'], fun k n z => by rw [z] at h'; cases h'⟩
theorem setN_len (m : Nat) (ρ : Sls) : (setN m ρ).length = ρ.length := by unfold setN; rw [List.length_map]
def upN : Option Nat → Sls → Sls
  | none, ρ => ρ
  | some m, ρ => setN m ρ
theorem upN_get {m : Option Nat} {ρ : Sls} {i : Nat} {s : Sl} (h : (upN m ρ)[i]? = some s) : (∃ k n n', ρ[i]? = some (.res k n) ∧ s = .res k n') ∨ ρ[i]? = some s := by
  cases m with
  | none => exact .inr h
  | some m =>
    rcases setN_get h with ⟨k, n, a, b⟩ | ⟨a, _⟩
    · exact .inl ⟨k, n, m, a, b⟩
    · exact .inr a
theorem upN_len (m : Option Nat) (ρ : Sls) : (upN m ρ).length = ρ.length := by cases m with
  | none => rfl
  | some m => exact setN_len m ρ
theorem upN_own {m : Option Nat} {ρ : Sls} {i : Nat} {o : Ow} (h : (upN m ρ)[i]? = some (.own o)) : ρ[i]? = some (.own o) := by
  rcases upN_get h with ⟨_, _, _, _, z⟩ | z
  · cases z
  · exact z
theorem upN_sh {m : Option Nat} {ρ : Sls} {i : Nat} {o : PV} (h : (upN m ρ)[i]? = some (.sh o)) : ρ[i]? = some (.sh o) := by
  rcases upN_get h with ⟨_, _, _, _, z⟩ | z
  · cases z
  · exact z
theorem upN_at (m : Option Nat) {ρ1 ρ2 : Sls} {i : Nat} (h : ρ1[i]? = ρ2[i]?) : (upN m ρ1)[i]? = (upN m ρ2)[i]? := by
  cases m with
  | none => exact h
  | some m => show (setN m ρ1)[i]? = (setN m ρ2)[i]?; unfold setN; rw [List.getElem?_map, List.getElem?_map, h]

/-! ### wiping -/
def wipeS (ρ : Sls) : List Nat → Sls
  | [] => ρ
  | v :: vs => (wipeS ρ vs).set v .un
theorem wipe_same (σ : L2.St) : ∀ vs : List Nat, (wipe σ vs).length = σ.length ∧ ∀ k, (wipe σ vs)[k]? = if k ∈ vs then (if k < σ.length then some none else none) else σ[k]?
  | [] => ⟨rfl, fun k => by simp [wipe]⟩
  | v :: vs => by
    obtain ⟨h1, h2⟩ := wipe_same σ vs
    refine ⟨by unfold wipe; rw [List.length_set]; exact h1, fun k => ?_⟩
    unfold wipe
    by_cases hk : v = k
    · subst hk
      rw [if_pos (List.mem_cons_self ..)]
      by_cases hl : v < σ.length
      · rw [if_pos hl, List.getElem?_set_self (by rw [h1]; exact hl)]
      · rw [if_neg hl, List.getElem?_eq_none (by rw [List.length_set, h1]; omega)]
    · rw [List.getElem?_set_ne hk, h2 k]
      have : k ∈ v :: vs ↔ k ∈ vs := by simp [Ne.symm hk]
      by_cases hm : k ∈ vs
      · rw [if_pos hm, if_pos (this.mpr hm)]
      · rw [if_neg hm, if_neg (fun z => hm (this.mp z))]
theorem wipeS_same (ρ : Sls) : ∀ vs : List Nat, (wipeS ρ vs).length = ρ.length ∧ ∀ k, (wipeS ρ vs)[k]? = if k ∈ vs then (if k < ρ.length then some .un else none) else ρ[k]?
  | [] => ⟨rfl, fun k => by simp [wipeS]⟩
  | v :: vs => by
    obtain ⟨h1, h2⟩ := wipeS_same ρ vs
    refine ⟨by unfold wipeS; rw [List.length_set]; exact h1, fun k => ?_⟩
    unfold wipeS
    by_cases hk : v = k
    · subst hk
      rw [if_pos (List.mem_cons_self ..)]
      by_cases hl : v < ρ.length
      · rw [if_pos hl, List.getElem?_set_self (by rw [h1]; exact hl)]
      · rw [if_neg hl, List.getElem?_eq_none (by rw [List.length_set, h1]; omega)]
    · rw [List.getElem?_set_ne hk, h2 k]
      have : k ∈ v :: vs ↔ k ∈ vs := by simp [Ne.symm hk]
      by_cases hm : k ∈ vs
      · rw [if_pos hm, if_pos (this.mpr hm)]
      · rw [if_neg hm, if_neg (fun z => hm (this.mp z))]
theorem wipe_eq {σ σ' : L2.St} {vs : List Nat} (h : SameBut vs σ σ') : wipe σ vs = wipe σ' vs := by
  apply List.ext_getElem?
  intro k
  rw [(wipe_same σ vs).2 k, (wipe_same σ' vs).2 k, h.1]
  by_cases hm : k ∈ vs
  · rw [if_pos hm, if_pos hm]
  · rw [if_neg hm, if_neg hm]; exact h.2 k hm
theorem wipe_but (σ : L2.St) (vs : List Nat) : SameBut vs (wipe σ vs) σ := ⟨(wipe_same σ vs).1, fun k hk => by rw [(wipe_same σ vs).2 k, if_neg hk]⟩
theorem wipeS_but (ρ : Sls) (vs : List Nat) : SameBut vs (wipeS ρ vs) ρ := ⟨(wipeS_same ρ vs).1, fun k hk => by rw [(wipeS_same ρ vs).2 k, if_neg hk]⟩
/-- nothing is owned at these slots -/
def noOwn (ρ : Sls) (vs : List Nat) : Prop := ∀ k ∈ vs, (∀ o, ρ[k]? ≠ some (.own o)) ∧ ∀ a n, ρ[k]? ≠ some (.res a n)
section
variable {K : PySem.W.Frag} {S S' : Gh} {σ σ2 : L2.St} {H H' : Hp} {ρ ρ2 : Sls} {vs : List Nat}
theorem Rep.wiped (R : Rep K S σ H ρ) (vs : List Nat) : Rep K S (wipe σ vs) H (wipeS ρ vs) := by
  have out : ∀ (k : Nat) (s : Sl), s ≠ .un → (wipeS ρ vs)[k]? = some s → k ∉ vs ∧ ρ[k]? = some s := fun k s hs e => by
    rw [(wipeS_same ρ vs).2 k] at e
    by_cases hm : k ∈ vs
    · rw [if_pos hm] at e
      split at e
      · exact absurd (Option.some.inj e).symm hs
      · cases e
    · rw [if_neg hm] at e; exact ⟨hm, e⟩
  refine ⟨R.gg, R.gh, R.gnew, R.frame, R.res, by rw [(wipe_same σ vs).1, (wipeS_same ρ vs).1]; exact R.len, fun i x e => ?_, fun i o e => ?_, fun i j oi oj p hij ei ej si sj => ?_, fun i k n e => ?_⟩
  · obtain ⟨h1, h2⟩ := out i _ (by simp) e
    rw [(wipe_but σ vs).2 i h1]; exact R.sh i x h2
  · obtain ⟨h1, h2⟩ := out i _ (by simp) e
    rw [(wipe_but σ vs).2 i h1]; exact R.own i o h2
  · obtain ⟨h1, h2⟩ := out i _ (by simp) ei
    obtain ⟨g1, g2⟩ := out j _ (by simp) ej
    rw [(wipe_but σ vs).2 i h1] at si
    rw [(wipe_but σ vs).2 j g1] at sj
    exact R.sep i j oi oj p hij h2 g2 si sj
  · obtain ⟨h1, h2⟩ := out i _ (by simp) e
    rw [(wipe_but σ vs).2 i h1]; exact R.rsl i k n h2
theorem Rep.back {ρ' : Sls} (R : Rep K S σ H ρ) (R2 : Rep K S' σ2 H' ρ2) (le : SLe S S') (h1 : SameBut vs σ2 σ) (h2 : SameBut vs ρ2 ρ') (n : noOwn ρ' vs) (hl : ρ'.length = ρ.length) (hsh : ∀ (i : Nat) (x : PV), ρ'[i]? = some (.sh x) → ρ[i]? = some (.sh x)) (how : ∀ (i : Nat) (x : Ow), ρ'[i]? = some (.own x) → ρ[i]? = some (.own x)) : Rep K S' σ H' ρ' := by
  refine ⟨R2.gg, R2.gh, R2.gnew, R2.frame, R2.res, by rw [hl]; exact R.len, fun i x e => ?_, fun i o e => ?_, fun i j oi oj p hij ei ej => R.sep i j oi oj p hij (how _ _ ei) (how _ _ ej), fun i k m e => ?_⟩
  · obtain ⟨v, e1, e2⟩ := R.sh i x (hsh _ _ e)
    exact ⟨v, e1, e2.mono le.G⟩
  · have hi : i ∉ vs := fun hm => (n i hm).1 o e
    rw [← h1.2 i hi]
    exact R2.own i o (by rw [h2.2 i hi]; exact e)
  · have hi : i ∉ vs := fun hm => (n i hm).2 k m e
    rw [← h1.2 i hi]
    exact R2.rsl i k m (by rw [h2.2 i hi]; exact e)
theorem Owned.back (h1 : SameBut vs σ2 σ) (h2 : SameBut vs ρ2 ρ) (n : noOwn ρ2 vs) {p : Addr} (o : Owned σ2 ρ2 p) : Owned σ ρ p := by
  obtain ⟨i, ow, e1, e2⟩ := o
  have hi : i ∉ vs := fun hm => (n i hm).1 ow e1
  exact ⟨i, ow, by rw [← h2.2 i hi]; exact e1, by rw [← h1.2 i hi]; exact e2⟩
theorem Stp.back {ρ' ρ3 : Sls} (h1 : SameBut vs σ2 σ) (h2 : SameBut vs ρ2 ρ) (n : noOwn ρ2 vs) (how : ∀ (i : Nat) (x : Ow), ρ'[i]? = some (.own x) → ρ[i]? = some (.own x)) (s : Stp S σ2 H ρ2 S' H' ρ3) : Stp S σ H ρ S' H' ρ' :=
  ⟨s.le, fun p o e hr hn => s.fr p o e hr fun q => hn (q.back h1 h2 n), fun p a b c => (s.gfr p a b c).back h1 h2 n, fun i o e => ⟨o, how i o e⟩, s.st⟩
/-- a new list that no name holds is written -/
theorem Rep.mutFree (R : Rep K S σ H ρ) {D : Addr} {o : HO} (f : FreshAt S σ ρ D) : Rep K S σ (upd H D o) ρ := by
  obtain ⟨f1, f2, f3, f4⟩ := f
  have ne : ∀ a u, S.G a = some u → a ≠ D := fun a u e z => by rw [z, f1] at e; cases e
  refine ⟨R.gg, fun a u e => by rw [upd_ne (ne a u e)]; exact R.gh a u e, R.gnew, fun a u e hn => ?_, ?_, R.len, R.sh, fun i q e => ?_, R.sep, fun i k n e => ?_⟩
  · rw [upd_ne (fun z => by rw [z, f2] at e; cases e)]; exact R.frame a u e hn
  · cases hR : S.R with
    | none => trivial
    | some q =>
      have hr := R.res
      rw [hR] at hr f3
      exact ⟨q.frame H _ (fun a ha => upd_ne (fun z => f3 (by rw [← z]; exact ha))) (Sub.refl _) hr.1, hr.2⟩
  · obtain ⟨b, e1, e2, e3⟩ := R.own i q e
    have hne : b ≠ D := fun z => f4 i q e (by rw [e1, z])
    exact ⟨b, e1, e2.keep (Sub.refl _) (upd_ne hne), e3⟩
  · obtain ⟨q, h1, h2, h3, h4⟩ := R.rsl i k n e
    exact ⟨q, h1, h2, h3, Rsc.budFrame (upd_ne fun z => f3 (by rw [h1, ← z]; simp [Rfp, Rsc.fp])) h4⟩
theorem FreshAt.step {ρ' : Sls} {D : Addr} (f : FreshAt S σ ρ D) (s : Stp S σ H ρ S' H' ρ') (h : H D ≠ none) : FreshAt S' σ ρ' D := by
  obtain ⟨f1, f2, f3, f4⟩ := f
  refine ⟨?_, by rw [s.le.H0]; exact f2, by rw [s.le.R]; exact f3, fun i o e => by
    obtain ⟨o', e'⟩ := s.mon i o e
    exact f4 i o' e'⟩
  cases e : S'.G D with
  | none => rfl
  | some u =>
    obtain ⟨i, o, e1, e2⟩ := s.gfr D (by rw [e]; simp) f1 h
    exact absurd e2 (f4 i o e1)
theorem FreshAt.stays {ρ' : Sls} {D : Addr} {o : HO} (f : FreshAt S σ ρ D) (s : Stp S σ H ρ S' H' ρ') (h : H D = some o) : H' D = some o :=
  s.fr D o h f.2.2.1 fun ⟨i, ow, e1, e2⟩ => f.2.2.2 i ow e1 e2
end

/-! ### the comprehension -/
def shv : Res → Option PV
  | .sh x => some x
  | .at _ => none
def wLC (T : CTg) (vs : List Nat) (wt : WT) (we : WE) (post : List PV → Sls → Prop) : List PV → List PV → Sls → Prop
  | [], acc, ρ => post acc ρ
  | x :: xs, acc, ρ => oB (setv T x (wipeS ρ vs)) fun ρ1 => wt ρ1 fun b ρ2 => ρ2 = ρ1 ∧ if b = true then we ρ1 fun r ρ3 => ρ3 = upN (resN ρ3) ρ1 ∧ oB (shv r) fun y => wLC T vs wt we post xs (acc ++ [y]) (upN (resN ρ3) ρ) else wLC T vs wt we post xs acc ρ
def wComp (T : CTg) (vs : List Nat) (wi : WI) (wt : WT) (we : WE) : WF := fun ρ post => wi ρ fun items ρ1 => items.length ≤ 100000 ∧ noOwn ρ1 vs ∧ wLC T vs wt we (fun acc ρ => post (.lst acc) ρ) items [] ρ1
theorem setv_noOwn {T : CTg} {vs : List Nat} {x : PV} {ρ ρ1 : Sls} (e : setv T x (wipeS ρ vs) = some ρ1) : noOwn ρ1 vs := by
  have base : noOwn (wipeS ρ vs) vs := fun k hk => by
    refine ⟨fun o q => ?_, fun a n q => ?_⟩
    · rw [(wipeS_same ρ vs).2 k, if_pos hk] at q
      split at q <;> cases q
    · rw [(wipeS_same ρ vs).2 k, if_pos hk] at q
      split at q <;> cases q
  have one : ∀ (ρ : Sls) (j : Nat) (y : PV), noOwn ρ vs → noOwn (ρ.set j (.sh y)) vs := fun ρ j y h k hk => by
    refine ⟨fun o q => ?_, fun a n q => ?_⟩
    · rcases get_set q with ⟨_, z⟩ | ⟨_, z⟩
      · cases z
      · exact (h k hk).1 o z
    · rcases get_set q with ⟨_, z⟩ | ⟨_, z⟩
      · cases z
      · exact (h k hk).2 a n z
  have many : ∀ (js : List Nat) (xs : List PV) (ρ ρ1 : Sls), noOwn ρ vs → setMany js xs ρ = some ρ1 → noOwn ρ1 vs := by
    intro js
    induction js with
    | nil => intro xs ρ ρ1 h e; cases xs with
      | nil => cases (Option.some.inj e); exact h
      | cons _ _ => cases e
    | cons j js ih => intro xs ρ ρ1 h e; cases xs with
      | nil => cases e
      | cons x xs => exact ih xs _ ρ1 (one ρ j x h) e
  cases T with
  | one j => cases (Option.some.inj e); exact one _ _ _ base
  | many js => cases x with
    | tup xs => exact many js xs _ _ base e
    | _ => cases e
theorem rd_lc {K : PySem.W.Frag} {ti : TI} {wi : WI} {T : CTg} {wt : WT} {we : WE} {vs : List Nat} (hi : RdI K ti wi) (hT : ∀ j ∈ T.slots, j ∈ vs) : RdF K (tLc ti (ctg K T) (cT K wt) (cE K we) vs) (wComp T vs wi wt we) := by
  intro S σ H ρ Q post R h k
  refine hi S σ H ρ _ _ R h fun S1 H1 J xs ρ1 R1 s1 wk h1 D hD => ?_
  obtain ⟨hz, hno, h1⟩ := h1
  obtain ⟨R0, _⟩ := R1.layNew (o := .lst []) hD
  have fD : FreshAt S1 σ ρ1 D := R1.new0 hD
  have hn0 : H D = none := s1.none hD
  have s0 : Stp S1 σ H1 ρ1 S1 (upd H1 D (.lst [])) ρ1 := (R1.layNew hD).2
  refine ⟨fun i m H2 => ∃ (S2 : Gh) (acc : List PV) (va : List V) (ρ2 : Sls), Rep K S2 σ H2 ρ2 ∧ Stp S1 σ H1 ρ1 S2 H2 ρ2 ∧ H2 D = some (.lst va) ∧ IsL K S2.G va acc ∧ FreshAt S2 σ ρ2 D ∧ noOwn ρ2 vs ∧ i ≤ xs.length ∧ m = xs.length - i ∧ acc.length ≤ i ∧
    wLC T vs wt we (fun acc ρ => post (.lst acc) ρ) (xs.drop i) acc ρ2,
    ⟨xs.length, S1, [], [], ρ1, R0, s0, upd_same, .nil, fD, hno, Nat.zero_le _, by simp, Nat.le_refl _, by simpa using h1⟩, ?_⟩
  rintro i m H2 ⟨S2, acc, va, ρ2, R2, s2, hv, la, f2, hno2, hi', rfl, hacc, hw⟩
  obtain ⟨w1, w2, w3⟩ := wk S2 σ H2 ρ2 s2.le R2
  by_cases hlt : i < xs.length
  · right
    refine ⟨w1 i hlt, fun H3 => ∃ (S3 : Gh) (acc : List PV) (va : List V) (ρ3 : Sls), Rep K S3 σ H3 ρ3 ∧ Stp S1 σ H1 ρ1 S3 H3 ρ3 ∧ H3 D = some (.lst va) ∧ IsL K S3.G va acc ∧ FreshAt S3 σ ρ3 D ∧ noOwn ρ3 vs ∧ acc.length ≤ i + 1 ∧
      wLC T vs wt we (fun acc ρ => post (.lst acc) ρ) (xs.drop (i + 1)) acc ρ3,
      fun H3 ⟨S3, acc, va, ρ3, a1, a2, a3, a4, a5, a6, a7, a8⟩ => ⟨xs.length - (i + 1), by omega, S3, acc, va, ρ3, a1, a2, a3, a4, a5, a6, hlt, rfl, a7, a8⟩, fun v H3 y => ?_⟩
    obtain ⟨S3, R3, s3, i3⟩ := w3 i v H3 xs[i] (List.getElem?_eq_getElem hlt) y
    rw [List.drop_eq_getElem_cons hlt] at hw
    obtain ⟨ρb, eb, hw⟩ := oB_ex hw
    have hv3 := f2.stays s3 hv
    have f3 := f2.step s3 (by rw [hv]; simp)
    have s13 := s2.trans s3
    refine ctg_ok hT (R3.wiped vs) i3 eb fun σ1 Rb b1 b2 => ?_
    have nb := setv_noOwn eb
    have c1 : SameBut vs σ1 σ := b1.trans (wipe_but σ vs)
    have c2 : SameBut vs ρb ρ2 := b2.trans (wipeS_but ρ2 vs)
    refine ⟨(wipe_eq b1).trans (by rw [wipe_eq (wipe_but σ vs)]), ?_⟩
    refine ⟨S3, ρb, _, Rb, hw, fun S4 H4 b ρ4 R4 s4 q4 => ?_⟩
    obtain ⟨rfl, q4⟩ := q4
    have t4 : Stp S3 σ H3 ρ2 S4 H4 ρ2 := Stp.back c1 c2 nb (fun _ _ h => h) s4
    have R4' : Rep K S4 σ H4 ρ2 := R3.back R4 t4.le c1 c2 hno2 rfl (fun _ _ h => h) (fun _ _ h => h)
    have hv4 := f3.stays t4 hv3
    have f4 := f3.step t4 (by rw [hv3]; simp)
    have s14 := s13.trans t4
    cases b with
    | false => exact ⟨S4, acc, va, ρ2, R4', s14, hv4, la.mono (s3.le.trans t4.le).G, f4, hno2, Nat.le_succ_of_le hacc, q4⟩
    | true =>
      rw [if_pos rfl] at q4 ⊢
      refine ⟨S4, _, _, R4, q4, fun S5 H5 u r ρ5 R5 s5 e5 q5 => ?_⟩
      obtain ⟨h5, q5⟩ := q5
      obtain ⟨mm, hm⟩ : ∃ mm, mm = resN ρ5 := ⟨_, rfl⟩
      rw [← hm] at h5 q5
      clear hm
      obtain ⟨z, ez, q5⟩ := oB_ex q5
      subst h5
      cases r with
      | «at» _ => cases ez
      | sh z' =>
        cases (Option.some.inj ez)
        have t5 : Stp S4 σ H4 ρ2 S5 H5 (upN mm ρ2) := Stp.back c1 c2 nb (fun _ _ h => upN_own h) s5
        have hno5 : noOwn (upN mm ρ2) vs := fun k hk => ⟨fun o e => (hno2 k hk).1 o (upN_own e), fun a n e => by
          rcases upN_get e with ⟨kk, n', _, z1, _⟩ | z1
          · exact (hno2 k hk).2 kk n' z1
          · exact (hno2 k hk).2 a n z1⟩
        have R5' : Rep K S5 σ H5 (upN mm ρ2) := R4'.back R5 t5.le c1 ⟨by rw [upN_len, upN_len]; exact c2.1, fun k hk => upN_at mm (c2.2 k hk)⟩ hno5 (upN_len _ _) (fun _ _ h => upN_sh h) (fun _ _ h => upN_own h)
        have hv5 := f4.stays t5 hv4
        have f5 := f4.step t5 (by rw [hv4]; simp)
        have s15 := s14.trans t5
        have la5 := la.mono (s3.le.trans (t4.le.trans t5.le)).G
        have ll := la5.len
        refine ⟨va, hv5, lt_line (by omega), S5, acc ++ [z], va ++ [u], _, R5'.mutFree f5, ?_, upd_same, la5.append (.cons e5 .nil), f5, hno5, by rw [List.length_append, List.length_singleton]; omega, q5⟩
        refine ⟨s15.le, fun p o e hr hn => ?_, s15.gfr, s15.mon, fun p hp => ?_⟩
        · rw [upd_ne (fun z => by rw [z, hD] at e; cases e)]; exact s15.fr p o e hr hn
        · rw [upd_ne (fun z => hp (by rw [z]; exact hD))]; exact s15.st p hp
  · left
    have e : i = xs.length := by omega
    subst e
    rw [List.drop_length] at hw
    exact ⟨w2, k S2 H2 D (.lst acc) ρ2 R2 (s1.trans s2) ⟨va, hv, la⟩ f2 hn0 hw⟩
section
variable {X : Cx} {elt tg iter : Expr} {ifs : List Expr} {scope : Scope} {own : List (Str × Nat)} {pos spos py : Pos} {wi : WI} {wt : WT} {we : WE} {T : CTg}
/-- [elt for tg in iter if ..] -/
theorem ef_lc (hN : X.N.Nodup) (hc : X.calm = true) (hi : IW X tg iter wi) (ok : BlkOk X.N X.env.scope scope own) (hT : ∀ j ∈ T.slots, j ∈ own.map (·.2))
    (hg : ∀ (s : Shared) (H : Hp) (C : Addr) (cl : List (Str × Addr)) (fp : List Addr), PG (X.blk s H scope (compEnvC scope cl C X.env) fp) tg (ctg X.K T)) (ht : ∀ (s : Shared) (H : Hp) (C : Addr) (cl : List (Str × Addr)) (fp : List Addr), TsW (X.blk s H scope (compEnvC scope cl C X.env) fp) ifs wt)
    (he : ∀ (s : Shared) (H : Hp) (C : Addr) (cl : List (Str × Addr)) (fp : List Addr), EW (X.blk s H scope (compEnvC scope cl C X.env) fp) elt we) (hs : ∀ x, foldedSetIterable iter X.env x = pure x := by intro _; rfl) :
    EF X (.ListComp elt [⟨tg, iter, ifs, 0⟩] scope pos) (wComp T (own.map (·.2)) wi wt we) := by
  obtain ⟨ti, i1, i2⟩ := hi.ex
  exact ⟨_, pe_lc (tt := cT X.K wt) (te := cE X.K we) hc hN i1 ok hg (fun s H C cl fp => (ht s H C cl fp).pts) (fun s H C cl fp => (he s H C cl fp).pe) hs, rd_lc i2 hT⟩
theorem sw_setLc {i : Nat} {y : Str} (hN : X.N.Nodup) (hc : X.calm = true) (hi : IW X tg iter wi) (ok : BlkOk X.N X.env.scope scope own) (hT : ∀ j ∈ T.slots, j ∈ own.map (·.2))
    (hg : ∀ (s : Shared) (H : Hp) (C : Addr) (cl : List (Str × Addr)) (fp : List Addr), PG (X.blk s H scope (compEnvC scope cl C X.env) fp) tg (ctg X.K T)) (ht : ∀ (s : Shared) (H : Hp) (C : Addr) (cl : List (Str × Addr)) (fp : List Addr), TsW (X.blk s H scope (compEnvC scope cl C X.env) fp) ifs wt)
    (he : ∀ (s : Shared) (H : Hp) (C : Addr) (cl : List (Str × Addr)) (fp : List Addr), EW (X.blk s H scope (compEnvC scope cl C X.env) fp) elt we)
    (hy : X.N[i]? = some y := by rfl) (hyl : X.env.scope.names.lookup y = some .local := by rfl)
    (hsw : swapsWith (.ListComp elt [⟨tg, iter, ifs, 0⟩] scope pos) (some (.Name y py)) spos.line X.env = pure true := by exact sw_true rfl rfl rfl rfl) (hs : ∀ x, foldedSetIterable iter X.env x = pure x := by intro _; rfl) :
    SW X (.Assign [.Name y py] (.ListComp elt [⟨tg, iter, ifs, 0⟩] scope pos) spos) (wSetF i (wComp T (own.map (·.2)) wi wt we)) := by
  obtain ⟨ti, i1, i2⟩ := hi.ex
  refine ⟨_, ps_setLc (tt := cT X.K wt) (te := cE X.K we) hc hN hy hyl hsw i1 ok hg (fun s H C cl fp => (ht s H C cl fp).pts) (fun s H C cl fp => (he s H C cl fp).pe) hs, fun S σ H ρ D E R h k => ?_⟩
  exact (rd_lc (K := X.K) (we := we) (wt := wt) i2 hT) S σ H ρ (fun x H1 => gName i x σ H1 E.nx) (fun o ρ1 => D.nx (ρ1.set i (.own o))) R h fun S1 H1 p o ρ1 R1 s1 e1 f1 n1 q => k.nx S1 _ H1 _ s1.le (R1.setOwn i e1 f1) q
end
end NL

/-! NL4: defs, their promises, their calls. -/
namespace NL
open PySem PySem.Spec PyProof.Rows L2

def RV.pv : RV → PV
  | .sh x => x
  | .own o => o.pv
mutual
def solid : PV → Bool
  | .tup xs => solids xs
  | .lst _ => false
  | .dct _ => false
  | .res _ _ => false
  | .non => true
  | .bl _ => true
  | .int _ => true
  | .str _ => true
  | .adr _ => true
  | .ty _ => true
def solids : List PV → Bool
  | [] => true
  | x :: xs => solid x && solids xs
end
def solidRV : RV → Bool
  | .sh x => solid x
  | .own (.lst xs) => solids xs
  | .own (.dct _) => false
section
variable {K : PySem.W.Frag} {G G' : Hp}
mutual
theorem Is.solid_of (k : ∀ a xs, G a = some (.tup xs) → G' a = some (.tup xs)) (k2 : ∀ a o u, G a = some (.frz o u) → G' a = some (.frz o u)) : ∀ {v : V} {x : PV}, Is K G v x → solid x = true → Is K G' v x
  | _, _, .non, _ => .non
  | _, _, .bl b, _ => .bl b
  | _, _, .int i, _ => .int i
  | _, _, .str x h h2, _ => .str x h h2
  | _, _, .adr a, _ => .adr a
  | _, _, .ty n, _ => .ty n
  | _, _, .tup h l, e => .tup (by
      rcases h with (h | ⟨o, h⟩) | h
      · exact .inl (.inl (k _ _ h))
      · exact .inl (.inr ⟨o, k2 _ _ _ h⟩)
      · exact .inr h) (IsL.solid_of k k2 l (by rw [solid] at e; exact e))
  | _, _, .lst _ _, e => by rw [solid] at e; cases e
theorem IsL.solid_of (k : ∀ a xs, G a = some (.tup xs) → G' a = some (.tup xs)) (k2 : ∀ a o u, G a = some (.frz o u) → G' a = some (.frz o u)) : ∀ {v : List V} {x : List PV}, IsL K G v x → solids x = true → IsL K G' v x
  | _, _, .nil, _ => .nil
  | _, _, .cons h l, e => by
    have e' := Bool.and_eq_true_iff.mp (by rw [solids] at e; exact e)
    exact .cons (Is.solid_of k k2 h e'.1) (IsL.solid_of k k2 l e'.2)
end
end

/-! ### arguments -/
def aval (ρ : Sls) : Res → Option PV
  | .sh x => some x
  | .at i => match ρ[i]? with
    | some (.own o) => some o.pv
    | some (.res k n) => some (.res k n)
    | _ => none
def avals (ρ : Sls) : List Res → Option (List PV)
  | [] => some []
  | r :: rs => match aval ρ r, avals ρ rs with
    | some x, some xs => some (x :: xs)
    | _, _ => none
def isSh : Res → Bool
  | .sh _ => true
  | .at _ => false
def hasRes : List PV → Bool
  | [] => false
  | .res _ _ :: _ => true
  | _ :: xs => hasRes xs
theorem hasRes_cons {x : PV} {xs : List PV} (h : hasRes xs = true) : hasRes (x :: xs) = true := by cases x <;> first | rfl | exact h
theorem aval_own {ρ : Sls} {i : Nat} {o : Ow} (h : ρ[i]? = some (.own o)) : aval ρ (.at i) = some o.pv := by
  show (match ρ[i]? with | some (.own o) => some o.pv | some (.res k n) => some (.res k n) | _ => none) = _
  rw [h]
/-- an argument: a frozen value, or the source of draws -/
inductive ArgAt (K : PySem.W.Frag) (R : Option Rsc) (G H : Hp) : V → PV → Prop
  | val {v : V} {x : PV} : Is K G v x → ArgAt K R G H v x
  | res {r : Rsc} {n : Nat} : R = some r → r.bud n H → ArgAt K R G H (.ref r.F) (.res r.kind n)
inductive ArgL (K : PySem.W.Frag) (R : Option Rsc) (G H : Hp) : List V → List PV → Prop
  | nil : ArgL K R G H [] []
  | cons {v : V} {x : PV} {vs : List V} {xs : List PV} : ArgAt K R G H v x → ArgL K R G H vs xs → ArgL K R G H (v :: vs) (x :: xs)
theorem ArgL.len {K : PySem.W.Frag} {R : Option Rsc} {G H : Hp} : ∀ {vs : List V} {xs : List PV}, ArgL K R G H vs xs → vs.length = xs.length
  | _, _, .nil => rfl
  | _, _, .cons _ l => by rw [List.length_cons, List.length_cons, ArgL.len l]
abbrev WF0 := List PV → (RV → Option Nat → Prop) → Prop
/-- a def's promise -/
def spW (K : PySem.W.Frag) (W : WF0) (n : Nat) : Sp := fun vs H Q _ => vs.length = n ∧ ∃ (R : Option Rsc) (G : Hp) (xs : List PV) (post : RV → Option Nat → Prop), Sub G H ∧ Rok K R G H ∧ ArgL K R G H vs xs ∧ W xs post ∧
  ∀ r n', post r n' → ∀ S' H' v, S'.R = R → S'.H0 = H → S'.G0 = G → Rep K S' [] H' [] → RetAt K S' H' v r → (∀ q m, R = some q → n' = some m → q.bud m H') → Q v H'
/-- the slots at the entry -/
def slOf : PV → Sl
  | .res k n => .res k n
  | x => .sh x
def startS (n : Nat) (xs : List PV) : Sls := xs.map slOf ++ List.replicate (n - xs.length) .un
theorem start_get {N : List Str} {vs : List V} {i : Nat} {v : V} (h : vs[i]? = some v) : (start N vs)[i]? = some (some v) := by
  unfold L2.start
  rw [List.getElem?_append_left (by rw [List.length_map]; exact (List.getElem?_eq_some_iff.mp h).1), List.getElem?_map, h] <;> rfl
theorem startS_get {n : Nat} {xs : List PV} {i : Nat} {s : Sl} (h : (startS n xs)[i]? = some s) (hs : s ≠ .un) : ∃ x, xs[i]? = some x ∧ s = slOf x := by
  unfold startS at h
  by_cases hi : i < xs.length
  · rw [List.getElem?_append_left (by rw [List.length_map]; exact hi), List.getElem?_map] at h
    rw [List.getElem?_eq_getElem hi] at h ⊢
    exact ⟨_, rfl, (Option.some.inj h).symm⟩
  · rw [List.getElem?_append_right (by rw [List.length_map]; omega), List.getElem?_replicate] at h
    split at h
    · exact absurd (Option.some.inj h).symm hs
    · cases h
theorem slOf_sh {x y : PV} (h : Sl.sh y = slOf x) : x = y ∧ ∀ k n, x ≠ .res k n := by
  cases x <;> first
    | (cases h; exact ⟨rfl, fun _ _ z => nomatch z⟩)
    | cases h
theorem slOf_own {x : PV} {o : Ow} : Sl.own o ≠ slOf x := by cases x <;> intro h <;> cases h
theorem slOf_res {x : PV} {k n : Nat} (h : Sl.res k n = slOf x) : x = .res k n := by
  cases x <;> first
    | (cases h; rfl)
    | cases h
theorem ArgL.get {K : PySem.W.Frag} {R : Option Rsc} {G H : Hp} : ∀ {vs : List V} {xs : List PV} {i : Nat} {x : PV}, ArgL K R G H vs xs → xs[i]? = some x → ∃ v, vs[i]? = some v ∧ ArgAt K R G H v x
  | _, _, _, _, .nil, e => by simp at e
  | _, _, 0, _, .cons h _, e => by simp at e; subst e; exact ⟨_, rfl, h⟩
  | _, _, i + 1, _, .cons _ l, e => by
    obtain ⟨v, h1, h2⟩ := ArgL.get (i := i) l (by simpa using e)
    exact ⟨v, by simpa using h1, h2⟩
theorem rep_start {K : PySem.W.Frag} {R : Option Rsc} {G H : Hp} {vs : List V} {xs : List PV} {N : List Str} (hg : Sub G H) (hr : Rok K R G H) (l : ArgL K R G H vs xs) : Rep K ⟨R, H, G, G⟩ (start N vs) H (startS N.length xs) := by
  refine ⟨Sub.refl _, hg, fun a h => .inl h, fun a o e _ => e, hr, ?_, fun i x e => ?_, fun i o e => ?_, fun i j oi oj p _ ei _ _ _ => ?_, fun i k n e => ?_⟩
  · unfold L2.start startS
    rw [List.length_append, List.length_append, List.length_map, List.length_map, List.length_replicate, List.length_replicate, l.len]
  · obtain ⟨y, e1, e2⟩ := startS_get e (by simp)
    obtain ⟨e3, e4⟩ := slOf_sh e2
    subst e3
    obtain ⟨v, h1, h2⟩ := l.get e1
    cases h2 with
    | val h => exact ⟨v, start_get h1, h⟩
    | res _ _ => exact absurd rfl (e4 _ _)
  · obtain ⟨y, e1, e2⟩ := startS_get e (by simp)
    exact absurd e2 slOf_own
  · obtain ⟨y, e1, e2⟩ := startS_get ei (by simp)
    exact absurd e2 slOf_own
  · obtain ⟨y, e1, e2⟩ := startS_get e (by simp)
    have e3 := slOf_res e2
    subst e3
    obtain ⟨v, h1, h2⟩ := l.get e1
    cases h2 with
    | val h => cases h
    | res hR hb => exact ⟨_, hR, rfl, start_get h1, hb⟩
theorem Rep.forget {K : PySem.W.Frag} {S : Gh} {σ : L2.St} {H : Hp} {ρ : Sls} (r : Rep K S σ H ρ) : Rep K S [] H [] :=
  ⟨r.gg, r.gh, r.gnew, r.frame, r.res, rfl, fun i x e => by simp at e, fun i o e => by simp at e, fun i j oi oj p _ e => by simp at e, fun i k n e => by simp at e⟩
theorem resN_get : ∀ {ρ : Sls} {m : Nat}, resN ρ = some m → ∃ (i k : Nat), ρ[i]? = some (.res k m)
  | [], _, h => by cases h
  | s :: ρ, m, h => by
    cases s with
    | res k n => cases (Option.some.inj (show some n = some m from h)); exact ⟨0, k, rfl⟩
    | un => obtain ⟨i, k, e⟩ := resN_get (ρ := ρ) h; exact ⟨i + 1, k, e⟩
    | sh x => obtain ⟨i, k, e⟩ := resN_get (ρ := ρ) h; exact ⟨i + 1, k, e⟩
    | own o => obtain ⟨i, k, e⟩ := resN_get (ρ := ρ) h; exact ⟨i + 1, k, e⟩

section
variable {P : Program} {w : World} {K : PySem.W.Frag} {mg : Str → Option Value} {base : Heap}
/-- THE RULE for a def -/
theorem fun_ok {x qual : Str} {st : Stmt} {f : Addr} {fd : FuncData} {N ps : List Str} {k : Nat} {W : WF0} (F : Fun K x qual st f fd) (Sc : FnScope N ps (defScope st))
    (body : ∀ (cdv : Value) (A : Around) (outer : List Env) (s : Shared) (H : Hp) (E : XK), Room k (A.deeper (envOfC qual (defScope st) s.heap.objs.size f cdv)) →
      ∃ w', SWs (cxOf CX0 P w K mg base N qual (defScope st) f cdv A outer s H E).nox (defBody st) w' ∧ ∀ xs post, xs.length = ps.length → W xs post → w' { nx := fun ρ => post (.sh .non) (resN ρ), rt := fun r ρ => post r (resN ρ) } (startS N.length xs)) :
    FnOk P w K mg base CX0 (k + 1) f fd ps (spW K W ps.length) := by
  refine F.ok Sc (fun vs H Q E h => h.1) (fun cdv A outer s H vs Q E hr h => ?_)
  obtain ⟨hl, R, G, xs, post, hg, hR, l, hw, k'⟩ := h
  obtain ⟨w', d, q⟩ := body cdv A outer s H E hr
  obtain ⟨t, h1, h2⟩ := d.ex
  refine ⟨t, h1, h2 ⟨R, H, G, G⟩ _ H _ _ _ (rep_start hg hR l) (q xs post (by rw [← l.len]; exact hl) hw) ⟨fun S' σ' H' ρ' s' R' p => ?_, fun S' σ' H' ρ' v r s' R' hv p => ?_, fun S' σ' H' ρ' s' R' p => p.elim, fun S' σ' H' ρ' s' R' p => p.elim⟩⟩
  · refine k' _ _ p S' H' .non s'.R s'.H0 s'.G0 R'.forget .non fun q m e1 e2 => ?_
    obtain ⟨i, k0, e⟩ := resN_get e2
    obtain ⟨q', g1, _, _, g2⟩ := R'.rsl i k0 m e
    have : q' = q := Option.some.inj (g1.symm.trans (s'.R.trans e1))
    rw [← this]; exact g2
  · refine k' _ _ p S' H' v s'.R s'.H0 s'.G0 R'.forget hv fun q m e1 e2 => ?_
    obtain ⟨i, k0, e⟩ := resN_get e2
    obtain ⟨q', g1, _, _, g2⟩ := R'.rsl i k0 m e
    have : q' = q := Option.some.inj (g1.symm.trans (s'.R.trans e1))
    rw [← this]; exact g2
end

/-! ### a call -/
/-- the slots behind a call -/
def after (xs : List PV) (n' : Option Nat) (ρ : Sls) : Option Sls := if hasRes xs = true then (match n' with
  | some m => some (setN m ρ)
  | none => none) else some ρ
/-- the call of a promise: what the arguments own stays owned if what comes back holds none of it -/
def wCallV (n : Nat) (W : WF0) (rs : List Res) (ρ : Sls) (post : RV → Sls → Prop) : Prop := oB (avals ρ rs) fun xs => xs.length = n ∧ W xs fun r n' => (rs.all isSh = true ∨ solidRV r = true ∧ hasRes xs = false ∨ hasRes xs = true ∧ rs.all (fun q => isSh q || (match aval ρ q with | some (.res _ _) => true | _ => false)) = true) ∧ oB (after xs n' ρ) fun ρ2 => post r ρ2
def wCall (n : Nat) (W : WF0) (wa : WA) : WE := fun ρ post => wa ρ fun rs ρ1 => wCallV n W rs ρ1 fun r ρ2 => post (.sh r.pv) ρ2
def wCallF (n : Nat) (W : WF0) (wa : WA) : WF := fun ρ post => wa ρ fun rs ρ1 => wCallV n W rs ρ1 fun r ρ2 => match r with
  | .own o => post o ρ2
  | _ => False

theorem after_get {xs : List PV} {n' : Option Nat} {ρ ρ2 : Sls} (h : after xs n' ρ = some ρ2) : (hasRes xs = true ∧ ∃ m, n' = some m ∧ ρ2 = setN m ρ) ∨ (hasRes xs = false ∧ ρ2 = ρ) := by
  unfold after at h
  cases hr : hasRes xs with
  | true =>
    rw [hr, if_pos rfl] at h
    cases n' with
    | none => cases h
    | some m => exact .inl ⟨rfl, m, rfl, (Option.some.inj h).symm⟩
  | false =>
    rw [hr, if_neg Bool.false_ne_true] at h
    exact .inr ⟨rfl, (Option.some.inj h).symm⟩

/-- what comes back -/
def BackAt (K : PySem.W.Frag) (S : Gh) (σ : L2.St) (H H' : Hp) (ρ' : Sls) (v : V) : RV → Prop
  | .sh x => Is K S.G v x
  | .own o => ∃ p, v = .ref p ∧ OwnAt K S.G H' p o ∧ FreshAt S σ ρ' p ∧ H p = none
section
variable {K : PySem.W.Frag} {S : Gh} {σ : L2.St} {H : Hp} {ρ : Sls}
/-- the addresses that are lent -/
def Lent (σ : L2.St) (ρ : Sls) (rs : List Res) (a : Addr) : Prop := ∃ (i : Nat) (o : Ow), Res.at i ∈ rs ∧ ρ[i]? = some (.own o) ∧ σ[i]? = some (some (.ref a))
open Classical in
noncomputable def lendG (S : Gh) (σ : L2.St) (H : Hp) (ρ : Sls) (rs : List Res) : Hp := fun a => if Lent σ ρ rs a then H a else S.G a
open Classical in
noncomputable def backG (σ : L2.St) (ρ : Sls) (rs : List Res) (G : Hp) : Hp := fun a => if Lent σ ρ rs a then none else G a
theorem Lent.facts (R : Rep K S σ H ρ) {rs : List Res} {a : Addr} (h : Lent σ ρ rs a) : S.G a = none ∧ a ∉ Rfp S.R ∧ ∃ vs, H a = some (.lst vs) := by
  obtain ⟨i, o, _, e1, e2⟩ := h
  obtain ⟨p, f1, f2, f3, _, f5⟩ := R.own i o e1
  rw [e2] at f1
  cases (Option.some.inj (Option.some.inj f1))
  refine ⟨f3, f5, ?_⟩
  cases o with
  | lst xs => obtain ⟨vs, e, _⟩ := f2; exact ⟨vs, e⟩
  | dct _ => exact f2.elim
theorem lend_sub (R : Rep K S σ H ρ) (rs : List Res) : Sub S.G (lendG S σ H ρ rs) := fun a o e => by
  unfold lendG
  rw [if_neg (fun z => by rw [(z.facts R).1] at e; cases e)]; exact e
theorem lend_h (R : Rep K S σ H ρ) (rs : List Res) : Sub (lendG S σ H ρ rs) H := fun a o e => by
  unfold lendG at e
  split at e
  · exact e
  · exact R.gh a o e
theorem lend_args (R : Rep K S σ H ρ) (rs0 : List Res) : ∀ {vs : List V} {rs : List Res} {xs : List PV}, (∀ r ∈ rs, r ∈ rs0) → ResL K S σ vs rs → avals ρ rs = some xs → (Rc : Option Rsc) → (hasRes xs = true → Rc = S.R) → ArgL K Rc (lendG S σ H ρ rs0) H vs xs
  | _, _, _, _, .nil, e, _, _ => by cases (Option.some.inj (show some [] = some _ from e)); exact .nil
  | _, r :: rs, _, hm, .cons h l, e, Rc, hR => by
    unfold avals at e
    split at e
    · rename_i x xs h1 h2
      cases (Option.some.inj e)
      have hR' : hasRes xs = true → Rc = S.R := fun z => hR (hasRes_cons z)
      refine .cons ?_ (lend_args R rs0 (fun r hr => hm r (List.mem_cons_of_mem _ hr)) l h2 Rc hR')
      cases r with
      | sh y => cases (Option.some.inj h1); exact .val (Is.mono (lend_sub R rs0) h)
      | «at» i =>
        unfold aval at h1
        dsimp only at h1
        split at h1
        · rename_i o q
          cases (Option.some.inj h1)
          obtain ⟨p, f1, f2, f3, f4, f5⟩ := R.own i o q
          have h' : σ[i]? = some (some _) := h
          rw [f1] at h'
          cases (Option.some.inj (Option.some.inj h'))
          cases o with
          | dct _ => exact f2.elim
          | lst ys =>
            obtain ⟨us, e1, l1⟩ := f2
            refine .val (.lst (.of ?_) (l1.mono (lend_sub R rs0)))
            unfold lendG
            rw [if_pos ⟨i, _, hm _ (List.mem_cons_self ..), q, f1⟩]; exact e1
        · rename_i k n q
          cases (Option.some.inj h1)
          obtain ⟨r0, g1, g2, g3, g4⟩ := R.rsl i k n q
          have h' : σ[i]? = some (some _) := h
          rw [g3] at h'
          cases (Option.some.inj (Option.some.inj h'))
          have : Rc = some r0 := (hR (by unfold hasRes; rfl)).trans g1
          subst g2
          exact .res this g4
        · cases h1
    · cases e

theorem call_core {n : Nat} {W : WF0} {rs : List Res} {vs : List V} {post : RV → Sls → Prop} {Q : VK} {E : XK} (R : Rep K S σ H ρ) (l : ResL K S σ vs rs) (h : wCallV n W rs ρ post)
    (k : ∀ S' H' v r ρ', Rep K S' σ H' ρ' → Stp S σ H ρ S' H' ρ' → BackAt K S' σ H H' ρ' v r → post r ρ' → Q v H') : spW K W n vs H Q E := by
  obtain ⟨xs, ex, hn, h⟩ := oB_ex h
  have hRc : ∃ Rc : Option Rsc, (hasRes xs = true → Rc = S.R) ∧ (hasRes xs = false → Rc = none) := by
    cases hasRes xs with
    | true => exact ⟨S.R, fun _ => rfl, fun z => nomatch z⟩
    | false => exact ⟨none, fun z => (nomatch z), fun _ => rfl⟩
  obtain ⟨Rc, hR1, hR0⟩ := hRc
  have rfpS : ∀ a, a ∈ Rfp Rc → a ∈ Rfp S.R := fun a ha => by
    cases hr : hasRes xs with
    | true => rw [← hR1 hr]; exact ha
    | false => rw [hR0 hr] at ha; cases ha
  have hok : Rok K Rc (lendG S σ H ρ rs) H := by
    cases hr : hasRes xs with
    | false => rw [hR0 hr]; trivial
    | true =>
      rw [hR1 hr]
      cases hS : S.R with
      | none => trivial
      | some q =>
        have hh := R.res
        rw [hS] at hh
        refine ⟨q.frame H _ (fun _ _ => rfl) (lend_sub R rs) hh.1, fun a ha => ?_⟩
        unfold lendG
        rw [if_neg (fun z => (z.facts R).2.1 (by rw [hS]; exact ha))]
        exact hh.2 a ha
  have la := lend_args R rs (fun r hr => hr) l ex Rc hR1
  refine ⟨la.len.trans hn, Rc, lendG S σ H ρ rs, xs, _, lend_h R rs, hok, la, h, fun r n' hp S' H' v e1 e2 e3 R' hv hb => ?_⟩
  obtain ⟨hc, hp⟩ := hp
  obtain ⟨ρ2, ea, hp⟩ := oB_ex hp
  have fr : ∀ a o, H a = some o → a ∉ Rfp Rc → H' a = some o := fun a o e hn => R'.frame a o (by rw [e2]; exact e) (by rw [e1]; exact hn)
  have gn : ∀ a, S'.G a ≠ none → lendG S σ H ρ rs a ≠ none ∨ H a = none := fun a e => by
    have := R'.gnew a e
    rw [e3, e2] at this; exact this
  have lsub : Sub (lendG S σ H ρ rs) S'.G := by have := R'.gg; rw [e3] at this; exact this
  have gsub : Sub S.G (backG σ ρ rs S'.G) := fun a o e => by
    unfold backG
    rw [if_neg (fun z => by rw [(z.facts R).1] at e; cases e)]
    exact lsub a o (lend_sub R rs a o e)
  have bsub : Sub (backG σ ρ rs S'.G) S'.G := fun a o e => by
    unfold backG at e
    split at e
    · cases e
    · exact e
  -- what is new there
  have bnew : ∀ a, backG σ ρ rs S'.G a ≠ none → S.G a ≠ none ∨ H a = none := fun a e => by
    unfold backG at e
    split at e
    · exact absurd rfl e
    · rename_i hl
      rcases gn a e with z | z
      · unfold lendG at z
        rw [if_neg hl] at z
        exact .inl z
      · exact .inr z
  -- what comes back, without what was lent
  have tr : ∀ {v : V} {x : PV}, (rs.all isSh = true ∨ solid x = true ∧ hasRes xs = false ∨ hasRes xs = true ∧ rs.all (fun q => isSh q || (match aval ρ q with | some (.res _ _) => true | _ => false)) = true) → Is K S'.G v x → Is K (backG σ ρ rs S'.G) v x := by
    intro v x c i
    have nolent : (∀ a, ¬ Lent σ ρ rs a) → Is K (backG σ ρ rs S'.G) v x := fun hn => Is.mono (fun a o e => by unfold backG; rw [if_neg (hn a)]; exact e) i
    rcases c with c | ⟨c, _⟩ | ⟨_, c⟩
    · exact nolent fun a ⟨i, o, hm, _⟩ => by
        have := List.all_eq_true.mp c _ hm
        cases this
    · refine Is.solid_of (fun a ts e => ?_) (fun a o u e => ?_) i c
      · unfold backG
        rw [if_neg (fun z => ?_)]
        · exact e
        · obtain ⟨_, _, us, q⟩ := z.facts R
          have : lendG S σ H ρ rs a = some (.lst us) := by unfold lendG; rw [if_pos z]; exact q
          rw [lsub a _ this] at e; cases e
      · unfold backG
        rw [if_neg (fun z => ?_)]
        · exact e
        · obtain ⟨_, _, us, q⟩ := z.facts R
          have : lendG S σ H ρ rs a = some (.lst us) := by unfold lendG; rw [if_pos z]; exact q
          rw [lsub a _ this] at e; cases e
    · exact nolent fun a ⟨i, o, hm, ho, _⟩ => by
        have := List.all_eq_true.mp c _ hm
        have e : aval ρ (.at i) = some o.pv := aval_own ho
        simp only [isSh, e, Bool.false_or] at this
        cases o <;> cases this
  have hres : Rok K S.R (backG σ ρ rs S'.G) H' := by
    cases hS : S.R with
    | none => trivial
    | some q =>
      have hh := R.res
      rw [hS] at hh
      cases hr : hasRes xs with
      | true =>
        have h2 := R'.res
        rw [e1, hR1 hr, hS] at h2
        have hn : ∀ a, ¬ Lent σ ρ rs a := by
          rcases hc with c | ⟨_, c⟩ | ⟨_, c⟩
          · exact fun a ⟨i, o, hm, _⟩ => by
              have := List.all_eq_true.mp c _ hm
              cases this
          · rw [hr] at c; cases c
          · exact fun a ⟨i, o, hm, ho, _⟩ => by
              have := List.all_eq_true.mp c _ hm
              have e : aval ρ (.at i) = some o.pv := aval_own ho
              simp only [isSh, e, Bool.false_or] at this
              cases o <;> cases this
        refine ⟨q.frame H' _ (fun _ _ => rfl) (fun a o e => by unfold backG; rw [if_neg (hn a)]; exact e) h2.1, fun a ha => ?_⟩
        unfold backG
        split
        · rfl
        · exact h2.2 a ha
      | false =>
        have same : ∀ a ∈ q.fp, H' a = H a := fun a ha => by
          cases e : H a with
          | none => exact absurd e (q.there H hh.1 a ha)
          | some u => exact fr a u e (by rw [hR0 hr]; simp [Rfp])
        refine ⟨q.frame H H' same gsub hh.1, fun a ha => ?_⟩
        cases e : backG σ ρ rs S'.G a with
        | none => rfl
        | some u =>
          rcases bnew a (by rw [e]; simp) with z | z
          · exact absurd (hh.2 a ha) z
          · exact absurd z (q.there H hh.1 a ha)
  have sth : ∀ p, H p ≠ none → H' p ≠ none := fun p hp => by
    by_cases hm : p ∈ Rfp Rc
    · exact R'.res.hsome p (by rw [e1]; exact hm)
    · cases e : H p with
      | none => exact absurd e hp
      | some u => rw [fr p u e hm]; simp
  have slot2 : ∀ (i : Nat) (s : Sl), ρ2[i]? = some s → (∃ (kk n m : Nat), ρ[i]? = some (.res kk n) ∧ s = .res kk m ∧ ((hasRes xs = true ∧ n' = some m) ∨ (hasRes xs = false ∧ n = m))) ∨ (ρ[i]? = some s ∧ ∀ k n, s ≠ .res k n) := fun i s e => by
    rcases after_get ea with ⟨hr, m, hm, rfl⟩ | ⟨hr, rfl⟩
    · rcases setN_get e with ⟨kk, n, q1, q2⟩ | q
      · exact .inl ⟨kk, n, m, q1, q2, .inl ⟨hr, hm⟩⟩
      · exact .inr q
    · cases s with
      | res kk n => exact .inl ⟨kk, n, n, e, rfl, .inr ⟨hr, rfl⟩⟩
      | un => exact .inr ⟨e, fun _ _ z => nomatch z⟩
      | sh x => exact .inr ⟨e, fun _ _ z => nomatch z⟩
      | own o => exact .inr ⟨e, fun _ _ z => nomatch z⟩
  have own2 : ∀ (i : Nat) (o : Ow), ρ2[i]? = some (.own o) → ρ[i]? = some (.own o) := fun i o e => by
    rcases slot2 i _ e with ⟨_, _, _, _, z, _⟩ | ⟨z, _⟩
    · cases z
    · exact z
  have R2 : Rep K ⟨S.R, S.H0, S.G0, backG σ ρ rs S'.G⟩ σ H' ρ2 := by
    refine ⟨R.gg.trans gsub, bsub.trans R'.gh, fun a e => ?_, fun a o e hn => ?_, hres, ?_, fun i x e => ?_, fun i o e => ?_, fun i j oi oj p hij ei ej si sj => R.sep i j oi oj p hij (own2 i oi ei) (own2 j oj ej) si sj, fun i kk m e => ?_⟩
    · rcases bnew a e with z | z
      · exact R.gnew a z
      · right
        cases e0 : S.H0 a with
        | none => rfl
        | some u =>
          by_cases hm : a ∈ Rfp S.R
          · exact absurd z (R.res.hsome a hm)
          · rw [R.frame a u e0 hm] at z; cases z
    · exact fr a o (R.frame a o e hn) fun z => hn (rfpS a z)
    · rcases after_get ea with ⟨_, m, _, rfl⟩ | ⟨_, rfl⟩
      · rw [setN_len]; exact R.len
      · exact R.len
    · rcases slot2 i _ e with ⟨_, _, _, _, z, _⟩ | ⟨z, _⟩
      · cases z
      · obtain ⟨v, q1, q2⟩ := R.sh i x z
        exact ⟨v, q1, q2.mono gsub⟩
    · obtain ⟨p, q1, q2, q3, q4, q5⟩ := R.own i o (own2 i o e)
      refine ⟨p, q1, q2.keep gsub ?_, ?_, q4, q5⟩
      · cases e0 : H p with
        | none => exact absurd e0 q2.some
        | some u => exact fr p u e0 fun z => q5 (rfpS p z)
      · cases e0 : backG σ ρ rs S'.G p with
        | none => exact e0
        | some u =>
          rcases bnew p (by rw [e0]; simp) with z | z
          · exact absurd q3 z
          · exact absurd z q2.some
    · rcases slot2 i _ e with ⟨k2, n2, m2, z1, z2, z3⟩ | ⟨_, z⟩
      · cases z2
        obtain ⟨q, g1, g2, g3, g4⟩ := R.rsl i kk n2 z1
        refine ⟨q, g1, g2, g3, ?_⟩
        rcases z3 with ⟨hr, hm⟩ | ⟨hr, hm⟩
        · exact hb q m ((hR1 hr).trans g1) hm
        · subst hm
          refine Rsc.budFrame ?_ g4
          have hm' : q.F ∈ Rfp S.R := by rw [g1]; simp [Rfp, Rsc.fp]
          cases e0 : H q.F with
          | none => exact absurd e0 (R.res.hsome _ hm')
          | some u => exact fr _ u e0 (by rw [hR0 hr]; simp [Rfp])
      · exact absurd rfl (z kk m)
  have st : Stp S σ H ρ ⟨S.R, S.H0, S.G0, backG σ ρ rs S'.G⟩ H' ρ2 := by
    refine ⟨⟨rfl, rfl, rfl, gsub⟩, fun p o e hr _ => fr p o e fun z => hr (rfpS p z), fun p h1 h2 h3 => ?_, fun i o e => ⟨o, own2 i o e⟩, sth⟩
    rcases bnew p h1 with z | z
    · exact absurd h2 z
    · exact absurd z h3
  refine k _ H' v r ρ2 R2 st ?_ hp
  cases r with
  | sh x => exact tr hc hv
  | own o =>
    obtain ⟨p, rfl, q1, q2, q3, q4⟩ := hv
    have hp0 : H p = none := by rw [← e2]; exact q3
    refine ⟨p, rfl, ?_, ⟨?_, ?_, ?_, fun i o e z => ?_⟩, hp0⟩
    · cases o with
      | dct _ => exact q1.elim
      | lst ys =>
        obtain ⟨us, g1, g2⟩ := q1
        refine ⟨us, g1, ?_⟩
        have hc' : rs.all isSh = true ∨ solids ys = true ∧ hasRes xs = false ∨ hasRes xs = true ∧ rs.all (fun q => isSh q || (match aval ρ q with | some (.res _ _) => true | _ => false)) = true := hc
        have : ∀ {vs : List V} {xs' : List PV}, IsL K S'.G vs xs' → (rs.all isSh = true ∨ solids xs' = true ∧ hasRes xs = false ∨ hasRes xs = true ∧ rs.all (fun q => isSh q || (match aval ρ q with | some (.res _ _) => true | _ => false)) = true) → IsL K (backG σ ρ rs S'.G) vs xs' := by
          intro vs xs' l
          induction l using IsL.rec (motive_1 := fun _ _ _ => True) with
          | nil => intro _; exact .nil
          | cons h l _ ih =>
            intro c
            refine .cons (tr ?_ h) (ih ?_)
            · rcases c with c | c | c
              · exact .inl c
              · exact .inr (.inl ⟨(Bool.and_eq_true_iff.mp (by have c := c.1; rw [solids] at c; exact c)).1, c.2⟩)
              · exact .inr (.inr c)
            · rcases c with c | c | c
              · exact .inl c
              · exact .inr (.inl ⟨(Bool.and_eq_true_iff.mp (by have c := c.1; rw [solids] at c; exact c)).2, c.2⟩)
              · exact .inr (.inr c)
          | _ => trivial
        exact this g2 hc'
    · cases e0 : backG σ ρ rs S'.G p with
      | none => first | rfl | exact e0
      | some u =>
        have := bsub p u e0
        rw [q2] at this; cases this
    · cases e0 : S.H0 p with
      | none => rfl
      | some u =>
        by_cases hm : p ∈ Rfp S.R
        · exact absurd hp0 (R.res.hsome p hm)
        · rw [R.frame p u e0 hm] at hp0; cases hp0
    · exact fun hm => R.res.hsome p hm hp0
    · obtain ⟨b, f1, f2, _⟩ := R.own i o (own2 i o e)
      rw [f1] at z
      cases (Option.some.inj (Option.some.inj z))
      exact f2.some hp0
end

section
variable {X : Cx} {e : Expr} {es : List Expr} {x : Str} {p pos : Pos} {k : Nat} {f : Addr} {fd : FuncData} {ps : List Str} {W : WF0} {wa : WA} {CX : CXT}
theorem ResL.len {K : PySem.W.Frag} {S : Gh} {σ : L2.St} : ∀ {vs : List V} {rs : List Res}, ResL K S σ vs rs → vs.length = rs.length
  | _, _, .nil => rfl
  | _, _, .cons _ l => by rw [List.length_cons, List.length_cons, ResL.len l]
theorem rd_call {K : PySem.W.Frag} {n : Nat} {W : WF0} {t : TA} {wa : WA} (h : RdA K t wa) : RdE K (tCall (spW K W n) [] E0 t) (wCall n W wa) := by
  intro S σ H ρ Q post R hw k'
  refine h S σ H ρ _ _ R hw fun S1 H1 vs rs ρ1 R1 s1 l1 q => ?_
  rw [List.append_nil]
  refine call_core R1 l1 q fun S2 H2 v r ρ2 R2 s2 b2 q2 => ?_
  cases r with
  | sh y => exact k' S2 H2 v (.sh y) ρ2 R2 (s1.trans s2) b2 q2
  | own o =>
    obtain ⟨b, rfl, q3, q4, q5⟩ := b2
    obtain ⟨S3, R3, i3, s3⟩ := R2.freezeAt q3 q4
    exact k' S3 H2 _ (.sh o.pv) ρ2 R3 (s1.trans (s3 _ _ _ s2 q5)) i3 q2
theorem rd_callF {K : PySem.W.Frag} {n : Nat} {W : WF0} {t : TA} {wa : WA} (h : RdA K t wa) : RdF K (tCall (spW K W n) [] E0 t) (wCallF n W wa) := by
  intro S σ H ρ Q post R hw k'
  refine h S σ H ρ _ _ R hw fun S1 H1 vs rs ρ1 R1 s1 l1 q => ?_
  rw [List.append_nil]
  refine call_core R1 l1 q fun S2 H2 v r ρ2 R2 s2 b2 q2 => ?_
  cases r with
  | sh y => exact q2.elim
  | own o =>
    obtain ⟨b, rfl, q3, q4, q5⟩ := b2
    exact k' S2 H2 b o ρ2 R2 (s1.trans s2) q3 q4 (s1.none q5) q2
/-- f(e, ..), all parameters given by position -/
theorem ew_call {n : Nat} (F : FnOk X.prog X.w X.K X.mg X.base CX k f fd ps (spW X.K W n)) (hr : Room k X.A) (hm : X.mg x = some (.ref f)) (hk : PySem.W.keepIn X.K (.ref f) = true) (hb : Binds X.K fd ps []) (hx : Passes CX X E0) (ha : AW X (e :: es) wa)
    (hg : Gl X x := by rfl) (hdb : (x == ("__debug__" : Str)) = false := by decide) (he : starEach (e :: es) X.env = (false, eval e X.env) :: starEach es X.env := by rfl) (hpl : (backTo pos (starEach es X.env)).any (·.1) = false := by rfl) :
    EW X (.Call (.Name x p) (e :: es) [] pos) (wCall n W wa) := by
  obtain ⟨t, h1, h2⟩ := ha.ex
  exact ⟨_, pe_call F hr hg hm hk hb .nil hx h1 hdb he hpl, rd_call h2⟩
theorem ef_call {n : Nat} (F : FnOk X.prog X.w X.K X.mg X.base CX k f fd ps (spW X.K W n)) (hr : Room k X.A) (hm : X.mg x = some (.ref f)) (hk : PySem.W.keepIn X.K (.ref f) = true) (hb : Binds X.K fd ps []) (hx : Passes CX X E0) (ha : AW X (e :: es) wa)
    (hg : Gl X x := by rfl) (hdb : (x == ("__debug__" : Str)) = false := by decide) (he : starEach (e :: es) X.env = (false, eval e X.env) :: starEach es X.env := by rfl) (hpl : (backTo pos (starEach es X.env)).any (·.1) = false := by rfl) :
    EF X (.Call (.Name x p) (e :: es) [] pos) (wCallF n W wa) := by
  obtain ⟨t, h1, h2⟩ := ha.ex
  exact ⟨_, pe_call F hr hg hm hk hb .nil hx h1 hdb he hpl, rd_callF h2⟩
theorem ew_call0 (F : FnOk X.prog X.w X.K X.mg X.base CX k f fd ps (spW X.K W 0)) (hr : Room k X.A) (hm : X.mg x = some (.ref f)) (hk : PySem.W.keepIn X.K (.ref f) = true) (hb : Binds X.K fd ps []) (hx : Passes CX X E0)
    (hg : Gl X x := by rfl) (hdb : (x == ("__debug__" : Str)) = false := by decide) :
    EW X (.Call (.Name x p) [] [] pos) (wCall 0 W wNil) := ⟨_, pe_call0 F hr hg hm hk hb .nil hx hdb, rd_call fun S σ H ρ Q post R h k => k S H [] [] ρ R (Stp.refl S σ H ρ) .nil h⟩
theorem ef_call0 (F : FnOk X.prog X.w X.K X.mg X.base CX k f fd ps (spW X.K W 0)) (hr : Room k X.A) (hm : X.mg x = some (.ref f)) (hk : PySem.W.keepIn X.K (.ref f) = true) (hb : Binds X.K fd ps []) (hx : Passes CX X E0)
    (hg : Gl X x := by rfl) (hdb : (x == ("__debug__" : Str)) = false := by decide) :
    EF X (.Call (.Name x p) [] [] pos) (wCallF 0 W wNil) := ⟨_, pe_call0 F hr hg hm hk hb .nil hx hdb, rd_callF fun S σ H ρ Q post R h k => k S H [] [] ρ R (Stp.refl S σ H ρ) .nil h⟩

/-! ### keywords: the values by keyword follow the others, then one order is taken -/
structure KwW (X : Cx) (kws : List Keyword) (w : WA) : Prop where
  ex : ∃ t, PK X kws t ∧ RdA X.K t w
theorem kw_nil : KwW X [] wNil := ⟨_, pk_nil, fun S σ H ρ Q post R h k => k S H [] [] ρ R (Stp.refl S σ H ρ) .nil h⟩
theorem kw_cons {nm : Option Str} {kpos : Pos} {kws : List Keyword} {we : WE} {wr : WA} (ha : EW X e we) (hr : KwW X kws wr) : KwW X (⟨nm, e, kpos⟩ :: kws) (wCons we wr) := by
  obtain ⟨ta, a1, a2⟩ := ha.ex
  obtain ⟨tr, b1, b2⟩ := hr.ex
  refine ⟨_, pk_cons a1 b1, fun S σ H ρ Q post R h k => ?_⟩
  refine a2 S σ H ρ _ _ R h fun S1 H1 v1 r1 ρ1 R1 s1 e1 h1 => ?_
  exact b2 S1 σ H1 ρ1 _ _ R1 h1 fun S2 H2 vs rs ρ2 R2 s2 e2 h2 => k S2 H2 _ _ ρ2 R2 (s1.trans s2) (.cons (e1.mono s2.le) e2) h2
/-- an order of values -/
structure Ord (gV : List V → List V → List V) (gR : List Res → List Res → List Res) : Prop where
  ok : ∀ {K : PySem.W.Frag} {S : Gh} {σ : L2.St} {vs zs : List V} {rs qs : List Res}, ResL K S σ vs rs → ResL K S σ zs qs → ResL K S σ (gV vs zs) (gR rs qs)
def wCallK (n : Nat) (W : WF0) (gR : List Res → List Res → List Res) (wa wk : WA) : WE := fun ρ post => wa ρ fun rs ρ1 => wk ρ1 fun qs ρ2 => wCallV n W (gR rs qs) ρ2 fun r ρ3 => post (.sh r.pv) ρ3
theorem ew_callK {n : Nat} {kws : List Keyword} {ks : List Str} {g : List Value → List Value → List Value} {gV : List V → List V → List V} {gR : List Res → List Res → List Res} {wk : WA}
    (F : FnOk X.prog X.w X.K X.mg X.base CX k f fd ps (spW X.K W n)) (hr : Room k X.A) (hm : X.mg x = some (.ref f)) (hk : PySem.W.keepIn X.K (.ref f) = true) (hb : KBinds X.K fd ps ks g gV) (ho : Ord gV gR) (hx : Passes CX X E0) (ha : AW X (e :: es) wa) (hkw : KwW X kws wk)
    (hg : Gl X x := by rfl) (hall : (backToKw pos (keywordEach kws X.env)).all (·.1.isSome) = true := by rfl) (hks : (backToKw pos (keywordEach kws X.env)).filterMap (·.1) = ks := by rfl)
    (hdb : (x == ("__debug__" : Str)) = false := by decide) (he : starEach (e :: es) X.env = (false, eval e X.env) :: starEach es X.env := by rfl)
    (hpl : ((backTo pos (starEach (e :: es) X.env)).any (·.1) || (backToKw pos (keywordEach kws X.env)).any (·.1.isNone)) = false := by rfl) :
    EW X (.Call (.Name x p) (e :: es) kws pos) (wCallK n W gR wa wk) := by
  obtain ⟨t, h1, h2⟩ := ha.ex
  obtain ⟨tk, k1, k2⟩ := hkw.ex
  refine ⟨_, pe_callK F hr hg hm hk hb hx h1 k1 hall hks hdb he hpl, ?_⟩
  intro S σ H ρ Q post R hw k'
  refine h2 S σ H ρ _ _ R hw fun S1 H1 vs rs ρ1 R1 s1 l1 q => ?_
  refine k2 S1 σ H1 ρ1 _ _ R1 q fun S2 H2 zs qs ρ2 R2 s2 l2 q => ?_
  refine call_core R2 (ho.ok (l1.mono s2.le) l2) q fun S3 H3 v r ρ3 R3 s3 b3 q3 => ?_
  cases r with
  | sh y => exact k' S3 H3 v (.sh y) ρ3 R3 (s1.trans (s2.trans s3)) b3 q3
  | own o =>
    obtain ⟨b, rfl, q4, q5, q6⟩ := b3
    obtain ⟨S4, R4, i4, s4⟩ := R3.freezeAt q4 q5
    exact k' S4 H3 _ (.sh o.pv) ρ3 R4 (s1.trans (s2.trans (s4 _ _ _ s3 q6))) i4 q3
/-- the keywords stand last, in the parameters' order -/
theorem ResL.append {K : PySem.W.Frag} {S : Gh} {σ : L2.St} : ∀ {vs ws : List V} {xs ys : List Res}, ResL K S σ vs xs → ResL K S σ ws ys → ResL K S σ (vs ++ ws) (xs ++ ys)
  | _, _, _, _, .nil, k => k
  | _, _, _, _, .cons h l, k => .cons h (ResL.append l k)
theorem Ord.app : Ord (· ++ ·) (· ++ ·) := ⟨fun l k => l.append k⟩
theorem KBinds.app {K : PySem.W.Frag} {ks : List Str} (h : ∀ us ws : List Value, (us ++ ws).length = ps.length → bindArgs fd ⟨us, ks.zip ws⟩ = pure (ps.zip (us ++ ws))) : KBinds K fd ps ks (· ++ ·) (· ++ ·) :=
  ⟨fun s us ws _ hl => .of_eq (h us ws hl), fun r1 r2 => r1.append r2⟩

/-! ### a call hands its worths frozen first -/
def fixL : List Res → Sls → Option (List Res × Sls)
  | [], ρ => some ([], ρ)
  | r :: rs, ρ => match fixR r ρ with
    | some (x, ρ1) => match fixL rs ρ1 with
      | some (qs, ρ2) => some (.sh x :: qs, ρ2)
      | none => none
    | none => none
theorem ResAt.fixd {K : PySem.W.Frag} {S : Gh} {σ : L2.St} {H : Hp} {ρ ρ' : Sls} {r : Res} {v : V} (R : Rep K S σ H ρ) (h : ResAt K S σ v r) : ResAt K S σ v r := h
theorem Rep.fixL {K : PySem.W.Frag} {σ : L2.St} {H : Hp} : ∀ {rs qs : List Res} {vs : List V} {S : Gh} {ρ ρ' : Sls}, Rep K S σ H ρ → ResL K S σ vs rs → NL.fixL rs ρ = some (qs, ρ') →
    ∃ S', Rep K S' σ H ρ' ∧ Stp S σ H ρ S' H ρ' ∧ ResL K S' σ vs qs
  | [], _, _, S, ρ, _, R, .nil, e => by cases (Option.some.inj e); exact ⟨S, R, Stp.refl S σ H ρ, .nil⟩
  | r :: rs, _, _, S, ρ, _, R, .cons h l, e => by
    unfold NL.fixL at e
    split at e
    · rename_i x ρ1 e1
      split at e
      · rename_i qs ρ2 e2
        cases (Option.some.inj e)
        obtain ⟨S1, R1, s1, i1⟩ := R.fix h e1
        obtain ⟨S2, R2, s2, l2⟩ := Rep.fixL R1 (l.mono s1.le) e2
        exact ⟨S2, R2, s1.trans s2, .cons (Is.mono s2.le.G i1) l2⟩
      · cases e
    · cases e
def wFix (wa : WA) : WA := fun ρ post => wa ρ fun rs ρ1 => oB (fixL rs ρ1) fun q => post q.1 q.2
theorem aw_fix {wa : WA} (ha : AW X es wa) : AW X es (wFix wa) := by
  obtain ⟨t, h1, h2⟩ := ha.ex
  refine ⟨t, h1, fun S σ H ρ Q post R h k => ?_⟩
  refine h2 S σ H ρ _ _ R h fun S1 H1 vs rs ρ1 R1 s1 l1 q => ?_
  obtain ⟨⟨qs, ρ2⟩, e2, q⟩ := oB_ex q
  obtain ⟨S2, R2, s2, l2⟩ := R1.fixL l1 e2
  exact k S2 H1 vs qs ρ2 R2 (s1.trans s2) l2 q
end
end NL

/-! NL5: operations and built-in functions on trees. -/
namespace NL
open PySem PySem.Spec PyProof.Rows L2

/-! ### values: facts -/
theorem line_ge : 100000 ≤ sizeLine := by rw [sizeLine_eq]; decide
mutual
def eqb : PV → PV → Bool
  | .non, .non => true
  | .bl a, .bl b => a == b
  | .bl a, .int j => (if a then 1 else 0) == j
  | .int i, .bl b => i == (if b then 1 else 0)
  | .int i, .int j => i == j
  | .str x, .str y => x == y
  | .lst xs, .lst ys => eqbs xs ys
  | .tup xs, .tup ys => eqbs xs ys
  | _, _ => false
def eqbs : List PV → List PV → Bool
  | [], [] => true
  | x :: xs, y :: ys => eqb x y && eqbs xs ys
  | _, _ => false
end
/-- can be compared: of depth n at most -/
def eqOk : Nat → PV → Bool
  | _, .non => true
  | _, .bl _ => true
  | _, .int _ => true
  | _, .str _ => true
  | n + 1, .lst xs => xs.all (eqOk n)
  | n + 1, .tup xs => xs.all (eqOk n)
  | _, _ => false
mutual
def pd : PV → PyData
  | .non => .none
  | .bl b => .bool b
  | .int i => .int i
  | .str cs => .str ⟨cs.toArray⟩
  | .lst xs => .list (pds xs)
  | .tup xs => .tuple (pds xs)
  | .adr _ => .none
  | .ty _ => .none
  | .dct _ => .none
  | .res _ _ => .none
def pds : List PV → List PyData
  | [] => []
  | x :: xs => pd x :: pds xs
end
section
variable {K : PySem.W.Frag} {G H : Hp}
mutual
theorem dp_of : ∀ (n : Nat) {v : V} {x : PV}, Is K G v x → eqOk n x = true → Dp K G v (pd x) ∧ (pd x).canLay0 = true ∧ (pd x).depth ≤ n
  | n, _, _, .non, _ => ⟨by rw [pd]; exact .non, by rw [pd]; rfl, by rw [pd]; exact Nat.zero_le _⟩
  | n, _, _, .bl b, _ => ⟨by rw [pd]; exact .bl b, by rw [pd]; rfl, by rw [pd]; exact Nat.zero_le _⟩
  | n, _, _, .int i, _ => ⟨by rw [pd]; exact .int i, by rw [pd]; rfl, by rw [pd]; exact Nat.zero_le _⟩
  | n, _, _, .str x h h2, _ => ⟨by rw [pd]; exact .str x, by rw [pd]; exact h2, by rw [pd]; exact Nat.zero_le _⟩
  | 0, _, _, .adr a, e => by cases e
  | 0, _, _, .ty a, e => by cases e
  | 0, _, _, .tup h l, e => by cases e
  | 0, _, _, .lst h l, e => by cases e
  | n + 1, _, _, .adr a, e => by cases e
  | n + 1, _, _, .ty a, e => by cases e
  | n + 1, _, _, .tup h l, e => by
    obtain ⟨h1, h2, h3⟩ := dp_ofs n l (by unfold eqOk at e; exact e)
    rw [pd]
    exact ⟨.tup h h1, h2, Nat.succ_le_succ h3⟩
  | n + 1, _, _, .lst h l, e => by
    obtain ⟨h1, h2, h3⟩ := dp_ofs n l (by unfold eqOk at e; exact e)
    rw [pd]
    exact ⟨.lst h h1, h2, Nat.succ_le_succ h3⟩
theorem dp_ofs : ∀ (n : Nat) {v : List V} {x : List PV}, IsL K G v x → x.all (eqOk n) = true → DpAll K G v (pds x) ∧ PyData.canLayAll0 (pds x) = true ∧ PyData.depthAll (pds x) ≤ n
  | n, _, _, .nil, _ => ⟨by rw [pds]; exact .nil, by rw [pds]; rfl, by rw [pds]; exact Nat.zero_le _⟩
  | n, _, _, .cons h l, e => by
    have e' := Bool.and_eq_true_iff.mp (show (eqOk n _ && List.all _ (eqOk n)) = true from e)
    obtain ⟨h1, h2, h3⟩ := dp_of n h e'.1
    obtain ⟨g1, g2, g3⟩ := dp_ofs n l e'.2
    rw [pds]
    exact ⟨.cons h1 g1, by unfold PyData.canLayAll0; rw [h2, g2]; rfl, Nat.max_le.mpr ⟨h3, g3⟩⟩
end
theorem shaped_of {v : V} {x : PV} (h : Is K G v x) (e : eqOk 64 x = true) : Dp K G v (pd x) ∧ SeqAt.shaped (pd x) = true := by
  obtain ⟨h1, h2, h3⟩ := dp_of 64 h e
  exact ⟨h1, by unfold SeqAt.shaped; rw [h2, decide_eq_true h3]; rfl⟩
end
mutual
theorem eqv_eqb : ∀ (x y : PV) (n m : Nat), eqOk n x = true → eqOk m y = true → PyData.eqv (pd x) (pd y) = eqb x y
  | .non, y, n, m, _, hy => by cases y <;> first | (simp only [pd, PyData.eqv, eqb]; done) | (cases m <;> cases hy)
  | .bl _, y, n, m, _, hy => by cases y <;> first | (simp only [pd, PyData.eqv, eqb]; done) | (cases m <;> cases hy)
  | .int _, y, n, m, _, hy => by cases y <;> first | (simp only [pd, PyData.eqv, eqb]; done) | (cases m <;> cases hy)
  | .str a, y, n, m, _, hy => by
    cases y <;> first
      | (rename_i b
         simp only [pd, PyData.eqv, eqb]
         rw [Bool.eq_iff_iff, beq_iff_eq, beq_iff_eq, Str.mk.injEq]
         exact ⟨fun h => by simpa using h, fun h => by rw [h]⟩)
      | (simp only [pd, PyData.eqv, eqb]; done)
      | (cases m <;> cases hy)
  | .lst xs, y, 0, m, hx, _ => by cases hx
  | .tup xs, y, 0, m, hx, _ => by cases hx
  | .lst xs, y, n + 1, m, hx, hy => by
    cases y with
    | lst ys =>
      cases m with
      | zero => cases hy
      | succ m =>
        simp only [pd, PyData.eqv, eqb]
        exact eqvs_eqbs xs ys n m (by unfold eqOk at hx; exact hx) (by unfold eqOk at hy; exact hy)
    | _ => first | (simp only [pd, PyData.eqv, eqb]; done) | (cases m <;> cases hy)
  | .tup xs, y, n + 1, m, hx, hy => by
    cases y with
    | tup ys =>
      cases m with
      | zero => cases hy
      | succ m =>
        simp only [pd, PyData.eqv, eqb]
        exact eqvs_eqbs xs ys n m (by unfold eqOk at hx; exact hx) (by unfold eqOk at hy; exact hy)
    | _ => first | (simp only [pd, PyData.eqv, eqb]; done) | (cases m <;> cases hy)
  | .adr _, _, n, _, h, _ => by cases n <;> cases h
  | .ty _, _, n, _, h, _ => by cases n <;> cases h
  | .dct _, _, n, _, h, _ => by cases n <;> cases h
  | .res _ _, _, n, _, h, _ => by cases n <;> cases h
theorem eqvs_eqbs : ∀ (x y : List PV) (n m : Nat), x.all (eqOk n) = true → y.all (eqOk m) = true → PyData.eqvAll (pds x) (pds y) = eqbs x y
  | [], [], _, _, _, _ => rfl
  | [], _ :: _, _, _, _, _ => rfl
  | _ :: _, [], _, _, _, _ => rfl
  | x :: xs, y :: ys, n, m, hx, hy => by
    have h1 := Bool.and_eq_true_iff.mp (show (eqOk n x && List.all xs (eqOk n)) = true from hx)
    have h2 := Bool.and_eq_true_iff.mp (show (eqOk m y && List.all ys (eqOk m)) = true from hy)
    simp only [pds, PyData.eqvAll, eqbs]
    rw [eqv_eqb x y n m h1.1 h2.1, eqvs_eqbs xs ys n m h1.2 h2.2]
end

/-! ### operators -/
def pEq (x y : PV) : Option PV := if (eqOk 64 x && eqOk 64 y) = true then some (.bl (eqb x y)) else none
def pNe (x y : PV) : Option PV := if (eqOk 64 x && eqOk 64 y) = true then some (.bl (!eqb x y)) else none
def p2I (c : Int → Int → Prop) [∀ i j, Decidable (c i j)] (f : Int → Int → PV) : PV → PV → Option PV
  | .int i, .int j => if c i j then some (f i j) else none
  | _, _ => none
instance : DecidablePred (fun q : Int × Int => CMul q.1 q.2) := fun q => by unfold CMul; infer_instance
def cT' : Int → Int → Prop := fun _ _ => True
instance (i j : Int) : Decidable (cT' i j) := .isTrue trivial
instance (i j : Int) : Decidable (CMul i j) := by unfold CMul; infer_instance
instance (i j : Int) : Decidable (CDiv i j) := by unfold CDiv; infer_instance
instance (i j : Int) : Decidable (CPow i j) := by unfold CPow; infer_instance
def cPos (_ j : Int) : Prop := 0 < j
instance (i j : Int) : Decidable (cPos i j) := by unfold cPos; infer_instance
/-- ordering of texts -/
def ltL (a b : List Nat) : Bool := decide (a < b)
section
variable {X : Cx}
theorem ow_eq (hu : X.A.units + 64 < cLine) : OpW X (compareOp .Eq) pEq := ⟨_, op_eqD hu, fun S σ H ρ x y v u z Q R hx hy e k => by
  unfold pEq at e
  split at e
  · rename_i c
    cases (Option.some.inj e)
    have c := Bool.and_eq_true_iff.mp c
    obtain ⟨h1, h2⟩ := shaped_of (hx.is R.gh) c.1
    obtain ⟨g1, g2⟩ := shaped_of (hy.is R.gh) c.2
    exact ⟨_, _, h1, g1, h2, g2, by rw [eqv_eqb _ _ 64 64 c.1 c.2]; exact k S H _ R (Stp.refl S σ H ρ) (.bl _)⟩
  · cases e⟩
theorem ow_ne (hu : X.A.units + 64 < cLine) : OpW X (compareOp .NotEq) pNe := ⟨_, op_neD hu, fun S σ H ρ x y v u z Q R hx hy e k => by
  unfold pNe at e
  split at e
  · rename_i c
    cases (Option.some.inj e)
    have c := Bool.and_eq_true_iff.mp c
    obtain ⟨h1, h2⟩ := shaped_of (hx.is R.gh) c.1
    obtain ⟨g1, g2⟩ := shaped_of (hy.is R.gh) c.2
    exact ⟨_, _, h1, g1, h2, g2, by rw [eqv_eqb _ _ 64 64 c.1 c.2]; exact k S H _ R (Stp.refl S σ H ρ) (.bl _)⟩
  · cases e⟩
theorem ow_I {f : Value → Value → Sem Value} {c : Int → Int → Prop} {g : Int → Int → V} {c' : Int → Int → Prop} [∀ i j, Decidable (c' i j)] {g' : Int → Int → PV} (h : OpR X f (rI c g)) (hc : ∀ i j, c' i j → c i j) (hg : ∀ i j, c' i j → ∀ K G, Is K G (g i j) (g' i j)) : OpW X f (p2I c' g') :=
  ⟨_, h, fun S σ H ρ x y v u z Q R hx hy e k => by
    cases x with
    | int i =>
      cases y with
      | int j =>
        have e : (if c' i j then some (g' i j) else none) = some z := e
        split at e
        · rename_i q
          cases (Option.some.inj e)
          have e1 := hx.int_iff
          have e2 := hy.int_iff
          subst e1
          subst e2
          exact ⟨i, j, rfl, rfl, hc i j q, k S H _ R (Stp.refl S σ H ρ) (hg i j q _ _)⟩
        · cases e
      | _ => cases e
    | _ => cases e⟩
theorem ow_I0 {f : Value → Value → Sem Value} {g : Int → Int → V} {g' : Int → Int → PV} (h : OpR X f (rI0 g)) (hg : ∀ i j, ∀ K G, Is K G (g i j) (g' i j)) : OpW X f (p2I cT' g') :=
  ⟨_, h, fun S σ H ρ x y v u z Q R hx hy e k => by
    cases x with
    | int i =>
      cases y with
      | int j =>
        have e : (if cT' i j then some (g' i j) else none) = some z := e
        rw [if_pos (show cT' i j from trivial)] at e
        cases (Option.some.inj e)
        have e1 := hx.int_iff
        have e2 := hy.int_iff
        subst e1
        subst e2
        exact ⟨i, j, rfl, rfl, k S H _ R (Stp.refl S σ H ρ) (hg i j _ _)⟩
      | _ => cases e
    | _ => cases e⟩
def pSub := p2I cT' fun i j => .int (i - j)
def pMulI := p2I CMul fun i j => .int (i * j)
def pDiv := p2I CDiv fun i j => .int (i / j)
def pMod := p2I cPos fun i j => .int (i % j)
def pPow := p2I CPow fun i j => .int (i ^ j.toNat)
def pLeI := p2I cT' fun i j => .bl (decide (i ≤ j))
def pGtI := p2I cT' fun i j => .bl (decide (j < i))
def pGeI := p2I cT' fun i j => .bl (decide (j ≤ i))
theorem ow_sub : OpW X (binaryOp .Sub) pSub := ow_I0 op_sub fun _ _ _ _ => .int _
theorem ow_mulI : OpW X (binaryOp .Mult) pMulI := ow_I op_mul (fun _ _ h => h) fun _ _ _ _ _ => .int _
theorem ow_div : OpW X (binaryOp .FloorDiv) pDiv := ow_I op_fdiv (fun _ _ h => h) fun _ _ _ _ _ => .int _
theorem ow_mod : OpW X (binaryOp .Mod) pMod := ow_I op_mod (fun _ _ h => h) fun _ _ _ _ _ => .int _
theorem ow_pow : OpW X (binaryOp .Pow) pPow := ow_I op_pow (fun _ _ h => h) fun _ _ _ _ _ => .int _
theorem ow_le : OpW X (compareOp .LtE) pLeI := ow_I0 op_le fun _ _ _ _ => .bl _
theorem ow_gt : OpW X (compareOp .Gt) pGtI := ow_I0 op_gt fun _ _ _ _ => .bl _
theorem ow_ge : OpW X (compareOp .GtE) pGeI := ow_I0 op_ge fun _ _ _ _ => .bl _
/-- a + b: ints, texts -/
def pAdd : PV → PV → Option PV
  | .int i, .int j => some (.int (i + j))
  | .str a, .str b => if a.length + b.length ≤ 100000 then some (.str (a ++ b)) else none
  | _, _ => none
theorem str_cat (a b : List Nat) : (⟨a.toArray⟩ ++ ⟨b.toArray⟩ : Str) = ⟨(a ++ b).toArray⟩ := by
  show Str.append _ _ = _
  simp [Str.append]
theorem slen (a : List Nat) : (⟨a.toArray⟩ : Str).length = a.length := by simp [Str.length]
theorem ow_addG {f : Value → Value → Sem Value} (h1 : OpR X f (rI0 fun i j => .int (i + j))) (h2 : OpR X f (fun x y H Q => ∃ i j, x = .str i ∧ y = .str j ∧ i.length + j.length ≤ sizeLine ∧ Q (.str (i ++ j)) H)) : OpW X f pAdd := ⟨_, h1.or h2, fun S σ H ρ x y v u z Q R hx hy e k => by
  cases x with
  | int i =>
    cases y with
    | int j =>
      cases (Option.some.inj e)
      have e1 := hx.int_iff
      have e2 := hy.int_iff
      subst e1
      subst e2
      exact .inl ⟨i, j, rfl, rfl, k S H _ R (Stp.refl S σ H ρ) (.int _)⟩
    | _ => cases e
  | str a =>
    cases y with
    | str b =>
      have e : (if a.length + b.length ≤ 100000 then some (PV.str (a ++ b)) else none) = some z := e
      split at e
      · rename_i c
        cases (Option.some.inj e)
        obtain ⟨rfl, _, h1⟩ := hx.str_iff
        obtain ⟨rfl, _, h2⟩ := hy.str_iff
        refine .inr ⟨_, _, rfl, rfl, by rw [slen, slen]; exact le_line c, ?_⟩
        rw [str_cat]
        exact k S H _ R (Stp.refl S σ H ρ) (.str' _ (by rw [List.length_append]; exact le_line c) (fun q hq => (List.mem_append.mp hq).elim (h1 q) (h2 q)))
      · cases e
    | _ => cases e
  | _ => cases e⟩
theorem ow_add : OpW X (binaryOp .Add) pAdd := ow_addG op_add op_add_str
theorem ow_iadd : OpW X (inplaceOp .Add) pAdd := ow_addG iop_add iop_add_str
theorem ow_isub : OpW X (inplaceOp .Sub) pSub := ow_I0 iop_sub fun _ _ _ _ => .int _
theorem ow_imulI : OpW X (inplaceOp .Mult) pMulI := ow_I iop_mul (fun _ _ h => h) fun _ _ _ _ _ => .int _
/-- a < b: ints, texts -/
def pLt : PV → PV → Option PV
  | .int i, .int j => some (.bl (decide (i < j)))
  | .str a, .str b => some (.bl (ltL a b))
  | _, _ => none
theorem ow_lt : OpW X (compareOp .Lt) pLt := ⟨_, op_lt.or op_lt_str, fun S σ H ρ x y v u z Q R hx hy e k => by
  cases x with
  | int i =>
    cases y with
    | int j =>
      cases (Option.some.inj e)
      have e1 := hx.int_iff
      have e2 := hy.int_iff
      subst e1
      subst e2
      exact .inl ⟨i, j, rfl, rfl, k S H _ R (Stp.refl S σ H ρ) (.bl _)⟩
    | _ => cases e
  | str a =>
    cases y with
    | str b =>
      cases (Option.some.inj e)
      obtain ⟨rfl, _, h1⟩ := hx.str_iff
      obtain ⟨rfl, _, h2⟩ := hy.str_iff
      exact .inr ⟨_, _, rfl, rfl, k S H _ R (Stp.refl S σ H ρ) (.bl _)⟩
    | _ => cases e
  | _ => cases e⟩
/-- text * int, int * int -/
def pMul : PV → PV → Option PV
  | .int i, .int j => if CMul i j then some (.int (i * j)) else none
  | .str a, .int j => if a.length * j.toNat ≤ 100000 ∧ j ≤ 100000 ∧ 0 ≤ j then some (.str (List.replicate j.toNat a).flatten) else none
  | _, _ => none
theorem mul_flat (a : List Nat) : ∀ (n : Nat) (acc : Array Nat), ((List.replicate n a.toArray).foldl (· ++ ·) acc) = acc ++ (List.replicate n a).flatten.toArray
  | 0, acc => by simp
  | n + 1, acc => by
    rw [List.replicate_succ, List.foldl_cons, mul_flat a n, List.replicate_succ, List.flatten_cons]
    simp
theorem txt_mul (a : List Nat) (n : Nat) : Txt.mul ⟨a.toArray⟩ (n : Int) = ⟨(List.replicate n a).flatten.toArray⟩ := by
  unfold Txt.mul
  by_cases h : (n : Int) < 1
  · have : n = 0 := by omega
    subst this
    rw [if_pos h]; rfl
  · rw [if_neg h]
    split
    · rename_i c
      rcases Bool.or_eq_true_iff.mp c with c | c
      · have : n = 1 := by have := beq_iff_eq.mp c; omega
        subst this
        simp
      · have : a = [] := by
          have := beq_iff_eq.mp c
          rw [slen] at this
          exact List.length_eq_zero_iff.mp this
        subst this
        simp
    · show Str.mk _ = _
      rw [Int.toNat_natCast, mul_flat]
      simp
theorem op_mul_str : OpR X (binaryOp .Mult) (fun x y H Q => ∃ (a : List Nat) (n : Nat), x = .str ⟨a.toArray⟩ ∧ y = .int n ∧ a.length * n ≤ 100000 ∧ n ≤ 100000 ∧ Q (.str ⟨(List.replicate n a).flatten.toArray⟩) H) := by
  intro pins s σ H x y v u Q I rx ry h
  obtain ⟨a, n, rfl, rfl, h1, h2, q⟩ := h
  obtain ⟨t, rfl⟩ := rx
  obtain ⟨t', rfl⟩ := ry
  have hl := line_ge
  refine SB.mul ⟨by
    rw [Bool.or_eq_false_iff]
    exact ⟨decide_eq_false (by omega), decide_eq_false (by omega)⟩, fun g1 g2 => ?_, fun g1 g2 => ?_⟩ fun t'' k => ?_
  · intro hc
    have hc : ((a.length : Int)) > (2 ^ 63 - 1) / (n : Int) := by rw [slen] at hc; exact hc
    have hn : (0 : Int) < n := by omega
    have h4 := Int.lt_mul_of_ediv_lt hn hc
    have h3 : (a.length : Int) * n ≤ 100000 := by have := Int.ofNat_le.mpr h1; rwa [Int.natCast_mul] at this
    exact absurd (Int.lt_of_lt_of_le h4 h3) (by decide)
  · rw [slen, Int.toNat_natCast]
    exact decide_eq_false (by omega)
  · rw [txt_mul]
    exact ⟨.str _, H, I.tok _, ⟨_, rfl⟩, q⟩
theorem rep_len (a : List Nat) (n : Nat) : (List.replicate n a).flatten.length = a.length * n := by
  rw [List.length_flatten, List.map_replicate, List.sum_replicate_nat, Nat.mul_comm]
theorem ow_mul : OpW X (binaryOp .Mult) pMul := ⟨_, op_mul.or op_mul_str, fun S σ H ρ x y v u z Q R hx hy e k => by
  cases x with
  | int i =>
    cases y with
    | int j =>
      have e : (if CMul i j then some (PV.int (i * j)) else none) = some z := e
      split at e
      · rename_i c
        cases (Option.some.inj e)
        have e1 := hx.int_iff
        have e2 := hy.int_iff
        subst e1
        subst e2
        exact .inl ⟨i, j, rfl, rfl, c, k S H _ R (Stp.refl S σ H ρ) (.int _)⟩
      · cases e
    | _ => cases e
  | str a =>
    cases y with
    | int j =>
      have e : (if a.length * j.toNat ≤ 100000 ∧ j ≤ 100000 ∧ 0 ≤ j then some (PV.str (List.replicate j.toNat a).flatten) else none) = some z := e
      split at e
      · rename_i c
        cases (Option.some.inj e)
        obtain ⟨rfl, _, h1⟩ := hx.str_iff
        have e2 := hy.int_iff
        subst e2
        obtain ⟨n, rfl⟩ : ∃ n : Nat, j = n := ⟨j.toNat, by omega⟩
        rw [Int.toNat_natCast] at c k
        refine .inr ⟨a, n, rfl, rfl, c.1, by omega, k S H _ R (Stp.refl S σ H ρ) (.str' _ (by rw [rep_len]; exact le_line c.1) fun q hq => ?_)⟩
        obtain ⟨l, hl, hq⟩ := List.mem_flatten.mp hq
        rw [(List.mem_replicate.mp hl).2] at hq
        exact h1 q hq
      · cases e
    | _ => cases e
  | _ => cases e⟩
end
end NL

/-! NL6: is, in, minus, subscripts, slices, built-in functions. -/
namespace NL
open PySem PySem.Spec PyProof.Rows L2

/-! ### is -/
def isC : PV → PV → Option Bool
  | .non, .non => some true
  | _, .non => some false
  | .bl a, .bl b => some (a == b)
  | _, .bl _ => some false
  | _, _ => none
def pIs (x y : PV) : Option PV := (isC x y).map .bl
def pIsNot (x y : PV) : Option PV := (isC x y).map fun b => .bl (!b)
def valC : V → V → Option Bool
  | .non, .non => some true
  | _, .non => some false
  | .bl a, .bl b => some (a == b)
  | _, .bl _ => some false
  | _, _ => none
theorem rel_is {x y : V} {u v : Value} {b : Bool} (rx : RelV x u) (ry : RelV y v) (h : valC x y = some b) : plainIs u v = true ∧ (u == v) = b := by
  cases y with
  | non =>
    cases (show v = Value.none from ry)
    cases x with
    | non => cases (show u = Value.none from rx); cases h; exact ⟨rfl, rfl⟩
    | bl k => cases (show u = Value.bool k from rx); cases h; exact ⟨rfl, rfl⟩
    | int i => obtain ⟨t, rfl⟩ := (show ∃ t, u = Value.int i t from rx); cases h; exact ⟨rfl, rfl⟩
    | str i => obtain ⟨t, rfl⟩ := (show ∃ t, u = Value.str i t from rx); cases h; exact ⟨rfl, rfl⟩
    | byt i => obtain ⟨t, rfl⟩ := (show ∃ t, u = Value.bytes i t from rx); cases h; exact ⟨rfl, rfl⟩
    | flt i => obtain ⟨t, rfl⟩ := (show ∃ t, u = Value.float i t from rx); cases h; exact ⟨rfl, rfl⟩
    | ref a => cases (show u = Value.ref a from rx); cases h; exact ⟨rfl, rfl⟩
    | ty n => cases (show u = Value.type n from rx); cases h; exact ⟨rfl, rfl⟩
  | bl k' =>
    cases (show v = Value.bool k' from ry)
    cases x with
    | non => cases (show u = Value.none from rx); cases h; exact ⟨rfl, rfl⟩
    | bl k =>
      cases (show u = Value.bool k from rx)
      refine ⟨rfl, ?_⟩
      have h' : some (k == k') = some b := h
      cases h'
      cases k <;> cases k' <;> rfl
    | int i => obtain ⟨t, rfl⟩ := (show ∃ t, u = Value.int i t from rx); cases h; exact ⟨rfl, rfl⟩
    | str i => obtain ⟨t, rfl⟩ := (show ∃ t, u = Value.str i t from rx); cases h; exact ⟨rfl, rfl⟩
    | byt i => obtain ⟨t, rfl⟩ := (show ∃ t, u = Value.bytes i t from rx); cases h; exact ⟨rfl, rfl⟩
    | flt i => obtain ⟨t, rfl⟩ := (show ∃ t, u = Value.float i t from rx); cases h; exact ⟨rfl, rfl⟩
    | ref a => cases (show u = Value.ref a from rx); cases h; exact ⟨rfl, rfl⟩
    | ty n => cases (show u = Value.type n from rx); cases h; exact ⟨rfl, rfl⟩
  | int _ => cases x <;> cases h
  | str _ => cases x <;> cases h
  | byt _ => cases x <;> cases h
  | flt _ => cases x <;> cases h
  | ref _ => cases x <;> cases h
  | ty _ => cases x <;> cases h
theorem top_valC {K : PySem.W.Frag} {G H : Hp} {v u : V} {x y : PV} {b : Bool} (hx : Top K G H v x) (hy : Top K G H u y) (h : isC x y = some b) : valC v u = some b := by
  cases y with
  | non =>
    rw [hy.non_iff]
    cases hx with
    | own _ _ => exact h
    | val hx => cases hx <;> exact h
  | bl k =>
    rw [hy.bl_iff]
    cases hx with
    | own _ _ => exact h
    | val hx => cases hx <;> exact h
  | _ => cases x <;> cases h
section
variable {X : Cx}
theorem op_isC : OpR X (compareOp .Is) (fun x y H Q => ∃ b, valC x y = some b ∧ Q (.bl b) H) := by
  intro pins s σ H x y v u Q I rx ry h
  obtain ⟨b, e, q⟩ := h
  obtain ⟨h1, h2⟩ := rel_is rx ry e
  exact wpAny_is_plain h1 (fin_bl I q h2.symm)
theorem op_isNotC : OpR X (compareOp .IsNot) (fun x y H Q => ∃ b, valC x y = some b ∧ Q (.bl (!b)) H) := by
  intro pins s σ H x y v u Q I rx ry h
  obtain ⟨b, e, q⟩ := h
  obtain ⟨h1, h2⟩ := rel_is rx ry e
  exact wpAny_isNot_plain h1 (fin_bl I q (by rw [h2]))
theorem ow_is : OpW X (compareOp .Is) pIs := ⟨_, op_isC, fun S σ H ρ x y v u z Q R hx hy e k => by
  unfold pIs at e
  cases h : isC x y with
  | none => rw [h] at e; cases e
  | some b =>
    rw [h] at e
    cases (Option.some.inj e)
    exact ⟨b, top_valC hx hy h, k S H _ R (Stp.refl S σ H ρ) (.bl _)⟩⟩
theorem ow_isnot : OpW X (compareOp .IsNot) pIsNot := ⟨_, op_isNotC, fun S σ H ρ x y v u z Q R hx hy e k => by
  unfold pIsNot at e
  cases h : isC x y with
  | none => rw [h] at e; cases e
  | some b =>
    rw [h] at e
    cases (Option.some.inj e)
    exact ⟨b, top_valC hx hy h, k S H _ R (Stp.refl S σ H ρ) (.bl _)⟩⟩

/-! ### in -/
def rInT (K : PySem.W.Frag) (neg : Bool) : R2 := fun x y H Q => ∃ d ds, Dp K H x d ∧ Dp K H y (.tuple ds) ∧ SeqAt.shaped d = true ∧ SeqAt.shaped (.tuple ds) = true ∧ Q (.bl (neg != ds.any fun z => PyData.eqv z d)) H
theorem room_in_shapedT {A : Around} {d : PyData} {ds : List PyData} (sd : SeqAt.shaped d = true) (hu : A.units + 65 < cLine) : A.units + 1 + min (PyData.depthAll ds) d.depth < cLine := by
  have h1 := SeqAt.depth_of_shaped sd
  have h2 : min (PyData.depthAll ds) d.depth ≤ d.depth := Nat.min_le_right _ _
  omega
theorem op_inT (hu : X.A.units + 65 < cLine) : OpR X (compareOp .In) (rInT X.K false) := by
  intro pins s σ H x y v u Q I rx ry h
  obtain ⟨d, ds, hd, he, sd, se, q⟩ := h
  obtain ⟨as, r1⟩ := Dp.reads I d x v hd rx
  obtain ⟨bs, r2⟩ := Dp.reads I (.tuple ds) y u he ry
  exact SeqAt.in_tuple_reads r2 r1 (SeqAt.canLay_of_shaped se) (SeqAt.canLay_of_shaped sd) (room_in_shapedT sd hu) ⟨.bl _, H, I, rfl, by simpa using q⟩
theorem op_notInT (hu : X.A.units + 65 < cLine) : OpR X (compareOp .NotIn) (rInT X.K true) := by
  intro pins s σ H x y v u Q I rx ry h
  obtain ⟨d, ds, hd, he, sd, se, q⟩ := h
  obtain ⟨as, r1⟩ := Dp.reads I d x v hd rx
  obtain ⟨bs, r2⟩ := Dp.reads I (.tuple ds) y u he ry
  exact SeqAt.notIn_tuple_reads r2 r1 (SeqAt.canLay_of_shaped se) (SeqAt.canLay_of_shaped sd) (room_in_shapedT sd hu) ⟨.bl _, H, I, rfl, by simpa using q⟩
/-- x in y -/
def isIn (x y : PV) : Option Bool := match y with
  | .str z => match x with
    | .str [c] => some (decide (c ∈ z))
    | _ => none
  | .lst xs => if (eqOk 64 x && eqOk 64 y) = true then some (xs.any fun q => eqb q x) else none
  | .tup xs => if (eqOk 64 x && eqOk 64 y) = true then some (xs.any fun q => eqb q x) else none
  | _ => none
def pIn (x y : PV) : Option PV := (isIn x y).map .bl
def pNotIn (x y : PV) : Option PV := (isIn x y).map fun b => .bl (!b)
theorem any_eqb {x : PV} {n : Nat} (hx : eqOk n x = true) : ∀ (xs : List PV) (m : Nat), xs.all (eqOk m) = true → ((pds xs).any fun z => PyData.eqv z (pd x)) = xs.any fun q => eqb q x
  | [], _, _ => by rw [pds]; rfl
  | y :: ys, m, h => by
    have h' := Bool.and_eq_true_iff.mp (show (eqOk m y && List.all ys (eqOk m)) = true from h)
    rw [pds, List.any_cons, List.any_cons, eqv_eqb y x m n h'.1 hx, any_eqb hx ys m h'.2]
theorem in_core {K : PySem.W.Frag} {S : Gh} {σ : L2.St} {H : Hp} {ρ : Sls} {x y : PV} {v u : V} {b : Bool} (R : Rep K S σ H ρ) (hx : Top K S.G H v x) (hy : Top K S.G H u y) (e : isIn x y = some b) :
    (∃ (c : Nat) (z : Str), v = .str ⟨#[c]⟩ ∧ u = .str z ∧ b = decide (c ∈ z.cps.toList)) ∨ (∃ d ds, Dp K H v d ∧ Dp K H u (.list ds) ∧ SeqAt.shaped d = true ∧ SeqAt.shaped (.list ds) = true ∧ b = ds.any fun z => PyData.eqv z d) ∨
      ∃ d ds, Dp K H v d ∧ Dp K H u (.tuple ds) ∧ SeqAt.shaped d = true ∧ SeqAt.shaped (.tuple ds) = true ∧ b = ds.any fun z => PyData.eqv z d := by
  unfold isIn at e
  split at e
  · rename_i z
    split at e
    · rename_i c
      cases (Option.some.inj e)
      obtain ⟨rfl, _, _⟩ := hx.str_iff
      obtain ⟨rfl, _, _⟩ := hy.str_iff
      exact .inl ⟨c, _, rfl, rfl, rfl⟩
    · cases e
  · rename_i xs
    split at e
    · rename_i c
      cases (Option.some.inj e)
      have c := Bool.and_eq_true_iff.mp c
      obtain ⟨h1, h2⟩ := shaped_of (hx.is R.gh) c.1
      obtain ⟨g1, g2⟩ := shaped_of (hy.is R.gh) c.2
      have h3 := c.2
      unfold eqOk at h3
      rw [pd] at g1 g2
      exact .inr (.inl ⟨_, _, h1, g1, h2, g2, (any_eqb c.1 xs 63 h3).symm⟩)
    · cases e
  · rename_i xs
    split at e
    · rename_i c
      cases (Option.some.inj e)
      have c := Bool.and_eq_true_iff.mp c
      obtain ⟨h1, h2⟩ := shaped_of (hx.is R.gh) c.1
      obtain ⟨g1, g2⟩ := shaped_of (hy.is R.gh) c.2
      have h3 := c.2
      unfold eqOk at h3
      rw [pd] at g1 g2
      exact .inr (.inr ⟨_, _, h1, g1, h2, g2, (any_eqb c.1 xs 63 h3).symm⟩)
    · cases e
  · cases e
theorem ow_in (hu : X.A.units + 65 < cLine) : OpW X (compareOp .In) pIn := ⟨_, op_in_sign.or ((op_inD hu).or (op_inT hu)), fun S σ H ρ x y v u z Q R hx hy e k => by
  unfold pIn at e
  cases h : isIn x y with
  | none => rw [h] at e; cases e
  | some b =>
    rw [h] at e
    cases (Option.some.inj e)
    have kk := k S H _ R (Stp.refl S σ H ρ) (.bl b)
    rcases in_core R hx hy h with ⟨c, zz, h1, h2, rfl⟩ | ⟨d, ds, h1, h2, h3, h4, rfl⟩ | ⟨d, ds, h1, h2, h3, h4, rfl⟩
    · exact .inl ⟨c, zz, h1, h2, kk⟩
    · exact .inr (.inl ⟨d, ds, h1, h2, h3, h4, kk⟩)
    · exact .inr (.inr ⟨d, ds, h1, h2, h3, h4, by simpa using kk⟩)⟩
theorem ow_notin (hu : X.A.units + 65 < cLine) : OpW X (compareOp .NotIn) pNotIn := ⟨_, op_notIn_sign.or ((op_notInD hu).or (op_notInT hu)), fun S σ H ρ x y v u z Q R hx hy e k => by
  unfold pNotIn at e
  cases h : isIn x y with
  | none => rw [h] at e; cases e
  | some b =>
    rw [h] at e
    cases (Option.some.inj e)
    have kk := k S H _ R (Stp.refl S σ H ρ) (.bl (!b))
    rcases in_core R hx hy h with ⟨c, zz, h1, h2, rfl⟩ | ⟨d, ds, h1, h2, h3, h4, rfl⟩ | ⟨d, ds, h1, h2, h3, h4, rfl⟩
    · exact .inl ⟨c, zz, h1, h2, kk⟩
    · exact .inr (.inl ⟨d, ds, h1, h2, h3, h4, kk⟩)
    · exact .inr (.inr ⟨d, ds, h1, h2, h3, h4, by simpa using kk⟩)⟩

/-! ### minus -/
def pNeg : PV → Option PV
  | .int i => some (.int (-i))
  | _ => none
theorem uw_neg : UnW X (unaryOp .USub) pNeg := ⟨_, un_neg, fun S σ H ρ x v z Q R hx e k => by
  cases x with
  | int i =>
    cases (Option.some.inj e)
    exact ⟨i, hx.int_iff, k S H _ R (Stp.refl S σ H ρ) (.int _)⟩
  | _ => cases e⟩

/-! ### subscripts -/
def pIx : PV → PV → Option PV
  | .str z, .int i => (atI z i).map fun c => .str [c]
  | .lst xs, .int i => atI xs i
  | .tup xs, .int i => atI xs i
  | _, _ => none
theorem atI_is {K : PySem.W.Frag} {G : Hp} {vs : List V} {xs : List PV} {i : Int} {x : PV} (l : IsL K G vs xs) (e : atI xs i = some x) : ∃ v, atI vs i = some v ∧ Is K G v x := by
  unfold atI at e ⊢
  rw [l.len]
  cases h : ixN xs.length i with
  | none => rw [h] at e; cases e
  | some j => rw [h] at e; exact l.get e
theorem ew_ix {a b : Expr} {wa wb : WE} {pos : Pos} (ha : EW X a wa) (hb : EW X b wb) (hs : PlainIx b := by exact fun _ _ => rfl) : EW X (.Subscript a b pos) (wOp pIx wa wb) := by
  obtain ⟨ta, a1, a2⟩ := ha.ex
  obtain ⟨tb, b1, b2⟩ := hb.ex
  refine ⟨_, pe_ix ix_seq a1 b1 hs, rd_op a2 b2 fun S σ H ρ x y v u z Q R hx hy e k => ?_⟩
  unfold pIx at e
  split at e
  · rename_i cs i
    cases h : atI cs i with
    | none => rw [h] at e; cases e
    | some c =>
      rw [h] at e
      cases (Option.some.inj e)
      obtain ⟨rfl, h1, h2⟩ := hx.str_iff
      have e2 := hy.int_iff
      subst e2
      obtain ⟨j, _, hj, _⟩ := atI_get h
      exact .inr (.inr ⟨_, i, c, rfl, rfl, by rw [slen]; exact h1, h, k S H _ R (Stp.refl S σ H ρ) (.str' [c] (Nat.le_trans (show 1 ≤ 100000 by decide) line_ge) fun q hq => by
        rw [List.mem_singleton.mp hq]
        exact h2 c (List.mem_of_getElem? hj))⟩)
  · rename_i xs i
    obtain ⟨a, vs, rfl, hq, l⟩ := hx.lst_iff R.gh
    have e2 := hy.int_iff
    subst e2
    obtain ⟨w, h1, h2⟩ := atI_is l e
    exact .inl ⟨a, vs, i, w, rfl, rfl, hq, h1, k S H _ R (Stp.refl S σ H ρ) h2⟩
  · rename_i xs i
    obtain ⟨a, vs, rfl, hq, l⟩ := hx.tup_iff R.gh
    have e2 := hy.int_iff
    subst e2
    obtain ⟨w, h1, h2⟩ := atI_is l e
    exact .inr (.inl ⟨a, vs, i, w, rfl, rfl, hq, h1, k S H _ R (Stp.refl S σ H ρ) h2⟩)
  · cases e

/-! ### slices -/
abbrev WO := Sls → (Option Int → Sls → Prop) → Prop
structure OW (X : Cx) (e : Option Expr) (w : WO) : Prop where
  ex : ∃ t, PO X e t ∧ ∀ (S : Gh) (σ : L2.St) (H : Hp) (ρ : Sls) (Q : Option Int → Hp → Prop) (post : Option Int → Sls → Prop), Rep X.K S σ H ρ → w ρ post →
    (∀ S' H' o ρ', Rep X.K S' σ H' ρ' → Stp S σ H ρ S' H' ρ' → post o ρ' → Q o H') → t σ H Q
def wO0 : WO := fun ρ post => post none ρ
def wO1 (w : WE) : WO := fun ρ post => w ρ fun r ρ1 => match r with
  | .sh (.int i) => post (some i) ρ1
  | _ => False
theorem o0 : OW X none wO0 := ⟨_, po_none, fun S σ H ρ Q post R h k => k S H none ρ R (Stp.refl S σ H ρ) h⟩
theorem o1 {e : Expr} {w : WE} (h : EW X e w) : OW X (some e) (wO1 w) := by
  obtain ⟨t, h1, h2⟩ := h.ex
  refine ⟨_, po_some h1, fun S σ H ρ Q post R hw k => h2 S σ H ρ _ _ R hw fun S1 H1 v r ρ1 R1 s1 e1 q => ?_⟩
  cases r with
  | «at» _ => exact q.elim
  | sh x =>
    cases x with
    | int i => exact ⟨i, Is.int_iff e1, k S1 H1 _ ρ1 R1 s1 q⟩
    | _ => exact q.elim
def cutL {α : Type} (xs : List α) (lo hi : Option Int) : List α := (xs.drop (HT.sIx xs.length 0 lo)).take (HT.sIx xs.length xs.length hi - HT.sIx xs.length 0 lo)
theorem cutL_is {K : PySem.W.Frag} {G : Hp} {vs : List V} {xs : List PV} (l : IsL K G vs xs) (lo hi : Option Int) : IsL K G (cutV vs lo hi) (cutL xs lo hi) := by
  unfold cutV cutL
  rw [l.len]
  exact (l.drop _).take _
theorem mem_cutL {α : Type} {xs : List α} {lo hi : Option Int} {x : α} (h : x ∈ cutL xs lo hi) : x ∈ xs := List.mem_of_mem_drop (List.mem_of_mem_take h)
theorem cutL_len {α : Type} (xs : List α) (lo hi : Option Int) : (cutL xs lo hi).length ≤ xs.length := by unfold cutL; rw [List.length_take, List.length_drop]; omega
/-- text, or a part of a tuple -/
def pSl : PV → Option Int → Option Int → Option PV
  | .str z, lo, hi => some (.str (cutL z lo hi))
  | .tup xs, lo, hi => if HT.sIx xs.length 0 lo = 0 ∧ HT.sIx xs.length xs.length hi = xs.length then none else some (.tup (cutL xs lo hi))
  | _, _, _ => none
def wSl (we : WE) (wl wh : WO) : WE := fun ρ post => we ρ fun r ρ1 => wl ρ1 fun lo ρ2 => wh ρ2 fun hi ρ3 => oB (val ρ3 r) fun x => oB (pSl x lo hi) fun z => post (.sh z) ρ3
def wSlF (we : WE) (wl wh : WO) : WF := fun ρ post => we ρ fun r ρ1 => wl ρ1 fun lo ρ2 => wh ρ2 fun hi ρ3 => oB (val ρ3 r) fun x => match x with
  | .lst xs => post (.lst (cutL xs lo hi)) ρ3
  | _ => False
variable {e : Expr} {lo hi : Option Expr} {p2 pos : Pos} {we : WE} {wl wh : WO}
theorem ew_sl (he : EW X e we) (hl : OW X lo wl) (hh : OW X hi wh) : EW X (.Subscript e (.Slice lo hi none p2) pos) (wSl we wl wh) := by
  obtain ⟨te, e1, e2⟩ := he.ex
  obtain ⟨tl, l1, l2⟩ := hl.ex
  obtain ⟨th, h1, h2⟩ := hh.ex
  refine ⟨_, pe_slice (sl_str.or sl_tup) e1 l1 h1, fun S σ H ρ Q post R h k => ?_⟩
  refine e2 S σ H ρ _ _ R h fun S1 H1 v r ρ1 R1 s1 f1 q => ?_
  refine l2 S1 σ H1 ρ1 _ _ R1 q fun S2 H2 a ρ2 R2 s2 q => ?_
  refine h2 S2 σ H2 ρ2 _ _ R2 q fun S3 H3 b ρ3 R3 s3 q => ?_
  obtain ⟨x, ex, q⟩ := oB_ex q
  obtain ⟨z, ez, q⟩ := oB_ex q
  have hx := (f1.mono (s2.trans s3).le).top R3 ex
  cases x with
  | str cs =>
    cases (Option.some.inj ez)
    obtain ⟨rfl, g1, g2⟩ := hx.str_iff
    refine .inl ⟨_, rfl, by rw [slen]; exact g1, ?_⟩
    have : cutS ⟨cs.toArray⟩ a b = ⟨(cutL cs a b).toArray⟩ := by unfold cutS cutL; rw [slen]
    rw [this]
    exact k S3 H3 _ (.sh (.str (cutL cs a b))) ρ3 R3 (s1.trans (s2.trans s3)) (.fz (.str' _ (Nat.le_trans (cutL_len _ _ _) g1) fun q hq => g2 q (mem_cutL hq))) q
  | tup xs =>
    have ez : (if HT.sIx xs.length 0 a = 0 ∧ HT.sIx xs.length xs.length b = xs.length then none else some (PV.tup (cutL xs a b))) = some z := ez
    split at ez
    · cases ez
    · rename_i c
      cases (Option.some.inj ez)
      obtain ⟨p, vs, rfl, hq, l⟩ := hx.tup_iff R3.gh
      refine .inr ⟨p, vs, rfl, hq, by rw [l.len]; exact c, fun d hd => ?_⟩
      obtain ⟨R4, s4⟩ := R3.freezeNew (o := .tup (cutV vs a b)) hd
      exact k _ _ _ (.sh (.tup (cutL xs a b))) ρ3 R4 (s1.trans (s2.trans (s3.trans s4))) (.fz (.tup (.of upd_same) ((cutL_is l a b).mono s4.le.G))) q
  | _ => cases ez
theorem ef_sl (he : EW X e we) (hl : OW X lo wl) (hh : OW X hi wh) : EF X (.Subscript e (.Slice lo hi none p2) pos) (wSlF we wl wh) := by
  obtain ⟨te, e1, e2⟩ := he.ex
  obtain ⟨tl, l1, l2⟩ := hl.ex
  obtain ⟨th, h1, h2⟩ := hh.ex
  refine ⟨_, pe_slice sl_list e1 l1 h1, fun S σ H ρ Q post R h k => ?_⟩
  refine e2 S σ H ρ _ _ R h fun S1 H1 v r ρ1 R1 s1 f1 q => ?_
  refine l2 S1 σ H1 ρ1 _ _ R1 q fun S2 H2 a ρ2 R2 s2 q => ?_
  refine h2 S2 σ H2 ρ2 _ _ R2 q fun S3 H3 b ρ3 R3 s3 q => ?_
  obtain ⟨x, ex, q⟩ := oB_ex q
  have hx := (f1.mono (s2.trans s3).le).top R3 ex
  cases x with
  | lst xs =>
    obtain ⟨p, vs, rfl, hq, l⟩ := hx.lst_iff R3.gh
    refine ⟨p, vs, rfl, hq, fun d hd => ?_⟩
    obtain ⟨R4, s4⟩ := R3.layNew (o := .lst (cutV vs a b)) hd
    exact k _ _ d (.lst (cutL xs a b)) ρ3 R4 (s1.trans (s2.trans (s3.trans s4))) ⟨_, upd_same, cutL_is l a b⟩ (R3.new0 hd) ((s1.trans (s2.trans s3)).none hd) q
  | _ => exact q.elim
end
end NL

/-! NL7: built-in functions. -/
namespace NL
open PySem PySem.Spec PyProof.Rows L2

theorem TopL.two {K : PySem.W.Frag} {G H : Hp} {vs : List V} {x y : PV} (h : TopL K G H vs [x, y]) : ∃ v u, vs = [v, u] ∧ Top K G H v x ∧ Top K G H u y := by
  cases h with
  | cons h1 h => cases h with
    | cons h2 h => cases h; exact ⟨_, _, rfl, h1, h2⟩
theorem TopL.one {K : PySem.W.Frag} {G H : Hp} {vs : List V} {x : PV} (h : TopL K G H vs [x]) : ∃ v, vs = [v] ∧ Top K G H v x := by
  cases h with
  | cons h1 h => cases h; exact ⟨_, rfl, h1⟩
/-- a call of a built-in: what comes back is a value -/
structure CaW (X : Cx) (f : Value) (g : List PV → Option PV) : Prop where
  ex : ∃ r, CallR X f r ∧ ∀ (S : Gh) (σ : L2.St) (H : Hp) (ρ : Sls) (vs : List V) (xs : List PV) (z : PV) (Q : VK), Rep X.K S σ H ρ → TopL X.K S.G H vs xs → g xs = some z →
    (∀ S' H' v', Rep X.K S' σ H' ρ → Stp S σ H ρ S' H' ρ → Is X.K S'.G v' z → Q v' H') → r vs H Q
/-- what comes back is a new list -/
structure CaF (X : Cx) (f : Value) (g : List PV → Option (List PV)) : Prop where
  ex : ∃ r, CallR X f r ∧ ∀ (S : Gh) (σ : L2.St) (H : Hp) (ρ : Sls) (vs : List V) (xs : List PV) (z : List PV) (Q : VK), Rep X.K S σ H ρ → TopL X.K S.G H vs xs → g xs = some z →
    (∀ p us, H p = none → IsL X.K S.G us z → Q (.ref p) (upd H p (.lst us))) → r vs H Q
def wB (g : List PV → Option PV) (wa : WA) : WE := fun ρ post => wa ρ fun rs ρ1 => oB (vals ρ1 rs) fun xs => oB (g xs) fun z => post (.sh z) ρ1
def wBF (g : List PV → Option (List PV)) (wa : WA) : WF := fun ρ post => wa ρ fun rs ρ1 => oB (vals ρ1 rs) fun xs => oB (g xs) fun z => post (.lst z) ρ1
section
variable {X : Cx} {e : Expr} {es : List Expr} {x : Str} {p pos : Pos} {wa : WA} {bid T : String}
theorem ew_bi {g : List PV → Option PV} (hc : CaW X (.builtin bid) g) (hm : X.mg x = none) (ha : AW X (e :: es) wa) (hv : bootBuiltins x = some (.builtin bid) := by decide +kernel) (hg : Gl X x := by rfl) (hn : x ≠ "__name__" := by decide) (hdb : (x == ("__debug__" : Str)) = false := by decide)
    (he : starEach (e :: es) X.env = (false, eval e X.env) :: starEach es X.env := by rfl) (hpl : (backTo pos (starEach es X.env)).any (·.1) = false := by rfl) : EW X (.Call (.Name x p) (e :: es) [] pos) (wB g wa) := by
  obtain ⟨r, c1, c2⟩ := hc.ex
  obtain ⟨t, h1, h2⟩ := ha.ex
  refine ⟨_, pe_callB c1 hg hm hv h1 hn hdb he hpl, fun S σ H ρ Q post R h k => ?_⟩
  refine h2 S σ H ρ _ _ R h fun S1 H1 vs rs ρ1 R1 s1 l1 q => ?_
  obtain ⟨xs, ex, q⟩ := oB_ex q
  obtain ⟨z, ez, q⟩ := oB_ex q
  exact c2 S1 σ H1 ρ1 vs xs z Q R1 (l1.top R1 ex) ez fun S2 H2 v2 R2 s2 i2 => k S2 H2 v2 (.sh z) ρ1 R2 (s1.trans s2) i2 q
theorem ef_bi {g : List PV → Option (List PV)} (hc : CaF X (.builtin bid) g) (hm : X.mg x = none) (ha : AW X (e :: es) wa) (hv : bootBuiltins x = some (.builtin bid) := by decide +kernel) (hg : Gl X x := by rfl) (hn : x ≠ "__name__" := by decide) (hdb : (x == ("__debug__" : Str)) = false := by decide)
    (he : starEach (e :: es) X.env = (false, eval e X.env) :: starEach es X.env := by rfl) (hpl : (backTo pos (starEach es X.env)).any (·.1) = false := by rfl) : EF X (.Call (.Name x p) (e :: es) [] pos) (wBF g wa) := by
  obtain ⟨r, c1, c2⟩ := hc.ex
  obtain ⟨t, h1, h2⟩ := ha.ex
  refine ⟨_, pe_callB c1 hg hm hv h1 hn hdb he hpl, fun S σ H ρ Q post R h k => ?_⟩
  refine h2 S σ H ρ _ _ R h fun S1 H1 vs rs ρ1 R1 s1 l1 q => ?_
  obtain ⟨xs, ex, q⟩ := oB_ex q
  obtain ⟨z, ez, q⟩ := oB_ex q
  refine c2 S1 σ H1 ρ1 vs xs z Q R1 (l1.top R1 ex) ez fun d us hd i2 => ?_
  obtain ⟨R2, s2⟩ := R1.layNew (o := .lst us) hd
  exact k _ _ d (.lst z) ρ1 R2 (s1.trans s2) ⟨us, upd_same, i2⟩ (R1.new0 hd) (s1.none hd) q
theorem ew_ty {g : List PV → Option PV} (hc : CaW X (.type T) g) (hm : X.mg x = none) (ha : AW X (e :: es) wa) (hv : bootBuiltins x = some (.type T) := by decide +kernel) (hg : Gl X x := by rfl) (hn : x ≠ "__name__" := by decide) (hdb : (x == ("__debug__" : Str)) = false := by decide)
    (he : starEach (e :: es) X.env = (false, eval e X.env) :: starEach es X.env := by rfl) (hpl : (backTo pos (starEach es X.env)).any (·.1) = false := by rfl) : EW X (.Call (.Name x p) (e :: es) [] pos) (wB g wa) := by
  obtain ⟨r, c1, c2⟩ := hc.ex
  obtain ⟨t, h1, h2⟩ := ha.ex
  refine ⟨_, pe_callTy c1 hg hm hv h1 hn hdb he hpl, fun S σ H ρ Q post R h k => ?_⟩
  refine h2 S σ H ρ _ _ R h fun S1 H1 vs rs ρ1 R1 s1 l1 q => ?_
  obtain ⟨xs, ex, q⟩ := oB_ex q
  obtain ⟨z, ez, q⟩ := oB_ex q
  exact c2 S1 σ H1 ρ1 vs xs z Q R1 (l1.top R1 ex) ez fun S2 H2 v2 R2 s2 i2 => k S2 H2 v2 (.sh z) ρ1 R2 (s1.trans s2) i2 q
theorem ef_ty {g : List PV → Option (List PV)} (hc : CaF X (.type T) g) (hm : X.mg x = none) (ha : AW X (e :: es) wa) (hv : bootBuiltins x = some (.type T) := by decide +kernel) (hg : Gl X x := by rfl) (hn : x ≠ "__name__" := by decide) (hdb : (x == ("__debug__" : Str)) = false := by decide)
    (he : starEach (e :: es) X.env = (false, eval e X.env) :: starEach es X.env := by rfl) (hpl : (backTo pos (starEach es X.env)).any (·.1) = false := by rfl) : EF X (.Call (.Name x p) (e :: es) [] pos) (wBF g wa) := by
  obtain ⟨r, c1, c2⟩ := hc.ex
  obtain ⟨t, h1, h2⟩ := ha.ex
  refine ⟨_, pe_callTy c1 hg hm hv h1 hn hdb he hpl, fun S σ H ρ Q post R h k => ?_⟩
  refine h2 S σ H ρ _ _ R h fun S1 H1 vs rs ρ1 R1 s1 l1 q => ?_
  obtain ⟨xs, ex, q⟩ := oB_ex q
  obtain ⟨z, ez, q⟩ := oB_ex q
  refine c2 S1 σ H1 ρ1 vs xs z Q R1 (l1.top R1 ex) ez fun d us hd i2 => ?_
  obtain ⟨R2, s2⟩ := R1.layNew (o := .lst us) hd
  exact k _ _ d (.lst z) ρ1 R2 (s1.trans s2) ⟨us, upd_same, i2⟩ (R1.new0 hd) (s1.none hd) q

/-! ### len -/
def lenOf : PV → Option Nat
  | .str cs => some cs.length
  | .lst xs => some xs.length
  | .tup xs => some xs.length
  | _ => none
def gLen : List PV → Option PV
  | [x] => (lenOf x).map fun n => .int n
  | _ => none
theorem ca_len : CaW X (.builtin "len") gLen := ⟨_, call_len, fun S σ H ρ vs xs z Q R l e k => by
  unfold gLen at e
  split at e
  · rename_i x
    obtain ⟨v, rfl, h⟩ := l.one
    refine ⟨v, ?_⟩
    cases x with
    | str cs =>
      cases (Option.some.inj e)
      obtain ⟨rfl, h1, _⟩ := h.str_iff
      exact ⟨_, rfl, ⟨by rw [slen]; exact h1, (slen cs).symm⟩, k S H _ R (Stp.refl S σ H ρ) (.int _)⟩
    | lst xs =>
      cases (Option.some.inj e)
      obtain ⟨a, vs, rfl, hq, l⟩ := h.lst_iff R.gh
      exact ⟨_, rfl, .inl ⟨vs, hq, l.len.symm⟩, k S H _ R (Stp.refl S σ H ρ) (.int _)⟩
    | tup xs =>
      cases (Option.some.inj e)
      obtain ⟨a, vs, rfl, hq, l⟩ := h.tup_iff R.gh
      exact ⟨_, rfl, .inr ⟨vs, hq, l.len.symm⟩, k S H _ R (Stp.refl S σ H ρ) (.int _)⟩
    | _ => cases e
  · cases e⟩

/-! ### isinstance of built-in types -/
def tyName : PV → Option String
  | .non => some "NoneType"
  | .bl _ => some "bool"
  | .int _ => some "int"
  | .str _ => some "str"
  | .lst _ => some "list"
  | .tup _ => some "tuple"
  | _ => none
def isaN (a b : String) : Option Bool :=
  if b = "int" then (if a = "int" ∨ a = "bool" then some true else some false)
  else if b = "bool" ∨ b = "str" ∨ b = "list" ∨ b = "tuple" then some (decide (a = b))
  else none
def isa (x : PV) (b : String) : Option Bool := (tyName x).bind fun a => isaN a b
theorem isaN_kit {x : PV} {a b : String} {r : Bool} (h0 : tyName x = some a) (h : isaN a b = some r) : kitB a b = some r := by
  have ha : a = "NoneType" ∨ a = "bool" ∨ a = "int" ∨ a = "str" ∨ a = "list" ∨ a = "tuple" := by
    cases x <;> cases h0 <;> simp
  have hb : b = "int" ∨ b = "bool" ∨ b = "str" ∨ b = "list" ∨ b = "tuple" := by
    unfold isaN at h
    split at h
    · rename_i q; exact .inl q
    · split at h
      · rename_i q; exact .inr q
      · cases h
  rcases ha with rfl | rfl | rfl | rfl | rfl | rfl <;> rcases hb with rfl | rfl | rfl | rfl | rfl <;> rw [← h] <;> decide +kernel
theorem top_ty {K : PySem.W.Frag} {G H : Hp} {v : V} {x : PV} {a : String} (s : Sub G H) (h : Top K G H v x) (e : tyName x = some a) : TyX K H v (.type a) := by
  cases x with
  | non => cases e; rw [h.non_iff]; exact .base .non
  | bl b => cases e; rw [h.bl_iff]; exact .base (.bl _)
  | int i => cases e; rw [h.int_iff]; exact .base (.int _)
  | str cs => cases e; rw [h.str_iff.1]; exact .base (.str _)
  | lst xs =>
    cases e
    obtain ⟨a, vs, rfl, hq, l⟩ := h.lst_iff s
    rcases hq with (hq | ⟨o, hq⟩) | ⟨o, its, n, h1, h2, _⟩
    · exact .base (.lst hq)
    · exact .base (.frz hq)
    · exact .kList h1 h2
  | tup xs =>
    cases e
    obtain ⟨a, vs, rfl, hq, l⟩ := h.tup_iff s
    rcases hq with (hq | ⟨o, hq⟩) | ⟨o, its, n, h1, h2, _⟩
    · exact .base (.tup hq)
    · exact .fTuple hq
    · exact .kTuple h1 h2
  | _ => cases e
def gIsi : List PV → Option PV
  | [x, .ty n] => (isa x n).map .bl
  | _ => none
theorem ca_isi : CaW X (.builtin "isinstance") gIsi := ⟨_, call_isi, fun S σ H ρ vs xs z Q R l e k => by
  unfold gIsi at e
  split at e
  · rename_i x n
    obtain ⟨v, u, rfl, h1, h2⟩ := l.two
    cases h : isa x n with
    | none => rw [h] at e; cases e
    | some b =>
      rw [h] at e
      cases (Option.some.inj e)
      unfold isa at h
      cases h0 : tyName x with
      | none => rw [h0] at h; cases h
      | some a =>
        rw [h0] at h
        have hu : u = .ty n := by
          cases h2 with
          | val h2 => cases h2; rfl
        subst hu
        exact ⟨v, _, _, _, b, rfl, .ty n, top_ty R.gh h1 h0, kit_ty (isaN_kit h0 h), k S H _ R (Stp.refl S σ H ρ) (.bl _)⟩
  · cases e⟩
/-- the name of a built-in type -/
theorem ew_tyname {n : String} (hm : X.mg x = none) (hv : bootBuiltins x = some (.type n) := by decide +kernel) (hg : Gl X x := by rfl) (hn : x ≠ "__name__" := by decide) (hd : (x == ("__debug__" : Str)) = false := by decide) : EW X (.Name x pos) (wC (.ty n)) :=
  ⟨_, pe_bltn (v := V.ty n) hg hm hv rfl hn hd, rd_c fun _ => .ty n⟩

/-! ### max, min, abs -/
def gMax : List PV → Option PV
  | [.int i, .int j] => some (.int (if j > i then j else i))
  | _ => none
def gMin : List PV → Option PV
  | [.int i, .int j] => some (.int (if j < i then j else i))
  | _ => none
theorem ca_max2 (hc : X.calm = true) : CaW X (.builtin "max") gMax := ⟨_, call_max2 hc, fun S σ H ρ vs xs z Q R l e k => by
  unfold gMax at e
  split at e
  · cases (Option.some.inj e)
    obtain ⟨v, u, rfl, h1, h2⟩ := l.two
    exact ⟨_, _, by rw [h1.int_iff, h2.int_iff], k S H _ R (Stp.refl S σ H ρ) (.int _)⟩
  · cases e⟩
theorem ca_min2 (hc : X.calm = true) : CaW X (.builtin "min") gMin := ⟨_, call_min2 hc, fun S σ H ρ vs xs z Q R l e k => by
  unfold gMin at e
  split at e
  · cases (Option.some.inj e)
    obtain ⟨v, u, rfl, h1, h2⟩ := l.two
    exact ⟨_, _, by rw [h1.int_iff, h2.int_iff], k S H _ R (Stp.refl S σ H ρ) (.int _)⟩
  · cases e⟩
def gAbs : List PV → Option PV
  | [.int i] => some (.int (if i < 0 then -i else i))
  | _ => none
theorem ca_abs : CaW X (.builtin "abs") gAbs := ⟨_, call_abs, fun S σ H ρ vs xs z Q R l e k => by
  unfold gAbs at e
  split at e
  · cases (Option.some.inj e)
    obtain ⟨v, rfl, h1⟩ := l.one
    exact ⟨_, by rw [h1.int_iff], k S H _ R (Stp.refl S σ H ρ) (.int _)⟩
  · cases e⟩

/-! ### all, any, sum of a list -/
def blL : List PV → Option (List Bool)
  | [] => some []
  | .bl b :: xs => (blL xs).map (b :: ·)
  | _ => none
def intL : List PV → Option (List Int)
  | [] => some []
  | .int b :: xs => (intL xs).map (b :: ·)
  | _ => none
def strL : List PV → Option (List (List Nat))
  | [] => some []
  | .str b :: xs => (strL xs).map (b :: ·)
  | _ => none
theorem bls_eq : ∀ {xs : List PV} {bs : List Bool}, blL xs = some bs → xs = bs.map .bl
  | [], _, e => by cases (Option.some.inj e); rfl
  | x :: xs, bs, e => by
    unfold blL at e
    split at e <;> try (cases e; done)
    · rename_i h; cases h
    · rename_i b ys h
      cases h
      cases h : blL xs with
      | none => rw [h] at e; cases e
      | some cs => rw [h] at e; cases (Option.some.inj e); rw [bls_eq h]; rfl
theorem ints_eq : ∀ {xs : List PV} {bs : List Int}, intL xs = some bs → xs = bs.map .int
  | [], _, e => by cases (Option.some.inj e); rfl
  | x :: xs, bs, e => by
    unfold intL at e
    split at e <;> try (cases e; done)
    · rename_i h; cases h
    · rename_i b ys h
      cases h
      cases h : intL xs with
      | none => rw [h] at e; cases e
      | some cs => rw [h] at e; cases (Option.some.inj e); rw [ints_eq h]; rfl
theorem strs_eq : ∀ {xs : List PV} {bs : List (List Nat)}, strL xs = some bs → xs = bs.map .str
  | [], _, e => by cases (Option.some.inj e); rfl
  | x :: xs, bs, e => by
    unfold strL at e
    split at e <;> try (cases e; done)
    · rename_i h; cases h
    · rename_i b ys h
      cases h
      cases h : strL xs with
      | none => rw [h] at e; cases e
      | some cs => rw [h] at e; cases (Option.some.inj e); rw [strs_eq h]; rfl
@[simp] theorem bls_map {α : Type} (f : α → Bool) : ∀ xs : List α, blL (xs.map fun x => .bl (f x)) = some (xs.map f)
  | [] => rfl
  | x :: xs => by rw [List.map_cons, blL, bls_map f xs]; rfl
@[simp] theorem ints_map {α : Type} (f : α → Int) : ∀ xs : List α, intL (xs.map fun x => .int (f x)) = some (xs.map f)
  | [] => rfl
  | x :: xs => by rw [List.map_cons, intL, ints_map f xs]; rfl
@[simp] theorem strs_map {α : Type} (f : α → List Nat) : ∀ xs : List α, strL (xs.map fun x => .str (f x)) = some (xs.map f)
  | [] => rfl
  | x :: xs => by rw [List.map_cons, strL, strs_map f xs]; rfl
theorem IsL.bls {K : PySem.W.Frag} {G : Hp} : ∀ {vs : List V} {bs : List Bool}, IsL K G vs (bs.map .bl) → vs = bs.map .bl
  | _, [], .nil => rfl
  | _, b :: bs, .cons h l => by rw [h.bl_iff, IsL.bls l]; rfl
theorem IsL.intsV {K : PySem.W.Frag} {G : Hp} : ∀ {vs : List V} {bs : List Int}, IsL K G vs (bs.map .int) → vs = bs.map .int
  | _, [], .nil => rfl
  | _, b :: bs, .cons h l => by rw [h.int_iff, IsL.intsV l]; rfl
theorem IsL.strsV {K : PySem.W.Frag} {G : Hp} : ∀ {vs : List V} {bs : List (List Nat)}, IsL K G vs (bs.map .str) → vs = (bs.map fun b => (⟨b.toArray⟩ : Str)).map .str ∧ ∀ b ∈ bs, b.length ≤ sizeLine ∧ ∀ c ∈ b, c < 0x110000
  | _, [], .nil => ⟨rfl, fun _ h => nomatch h⟩
  | _, b :: bs, .cons h l => by
    obtain ⟨h1, h2⟩ := h.str_iff
    obtain ⟨g1, g2⟩ := IsL.strsV l
    exact ⟨by rw [h1, g1]; rfl, fun c hc => by
      rcases List.mem_cons.mp hc with rfl | hc
      · exact h2
      · exact g2 c hc⟩
def gAll : List PV → Option PV
  | [.lst xs] => (blL xs).map fun bs => .bl (bs.all id)
  | _ => none
def gAny : List PV → Option PV
  | [.lst xs] => (blL xs).map fun bs => .bl (bs.any id)
  | _ => none
def gSum : List PV → Option PV
  | [.lst xs] => (intL xs).map fun bs => .int bs.sum
  | _ => none
theorem ca_all (hc : X.calm = true) : CaW X (.builtin "all") gAll := ⟨_, cr_all hc, fun S σ H ρ vs xs z Q R l e k => by
  unfold gAll at e
  split at e
  · rename_i ys
    obtain ⟨v, rfl, h⟩ := l.one
    cases h1 : blL ys with
    | none => rw [h1] at e; cases e
    | some bs =>
      rw [h1] at e
      cases (Option.some.inj e)
      cases bls_eq h1
      obtain ⟨a, vs, rfl, hq, l⟩ := h.lst_iff R.gh
      cases l.bls
      exact ⟨a, bs, rfl, hq, k S H _ R (Stp.refl S σ H ρ) (.bl _)⟩
  · cases e⟩
theorem ca_any (hc : X.calm = true) : CaW X (.builtin "any") gAny := ⟨_, cr_any hc, fun S σ H ρ vs xs z Q R l e k => by
  unfold gAny at e
  split at e
  · rename_i ys
    obtain ⟨v, rfl, h⟩ := l.one
    cases h1 : blL ys with
    | none => rw [h1] at e; cases e
    | some bs =>
      rw [h1] at e
      cases (Option.some.inj e)
      cases bls_eq h1
      obtain ⟨a, vs, rfl, hq, l⟩ := h.lst_iff R.gh
      cases l.bls
      exact ⟨a, bs, rfl, hq, k S H _ R (Stp.refl S σ H ρ) (.bl _)⟩
  · cases e⟩
theorem ca_sum (hc : X.calm = true) : CaW X (.builtin "sum") gSum := ⟨_, cr_sum hc, fun S σ H ρ vs xs z Q R l e k => by
  unfold gSum at e
  split at e
  · rename_i ys
    obtain ⟨v, rfl, h⟩ := l.one
    cases h1 : intL ys with
    | none => rw [h1] at e; cases e
    | some bs =>
      rw [h1] at e
      cases (Option.some.inj e)
      cases ints_eq h1
      obtain ⟨a, vs, rfl, hq, l⟩ := h.lst_iff R.gh
      cases l.intsV
      exact ⟨a, bs, rfl, hq, k S H _ R (Stp.refl S σ H ρ) (.int _)⟩
  · cases e⟩

/-! ### int, str, tuple, list -/
def gInt : List PV → Option PV
  | [.int i] => some (.int i)
  | [.bl b] => some (.int (if b then 1 else 0))
  | _ => none
theorem ca_int : CaW X (.type "int") gInt := ⟨_, call_int1, fun S σ H ρ vs xs z Q R l e k => by
  unfold gInt at e
  split at e
  · cases (Option.some.inj e)
    obtain ⟨v, rfl, h⟩ := l.one
    exact .inl ⟨_, by rw [h.int_iff], k S H _ R (Stp.refl S σ H ρ) (.int _)⟩
  · cases (Option.some.inj e)
    obtain ⟨v, rfl, h⟩ := l.one
    exact .inr ⟨_, by rw [h.bl_iff], k S H _ R (Stp.refl S σ H ρ) (.int _)⟩
  · cases e⟩
def gStr : List PV → Option PV
  | [.str i] => some (.str i)
  | _ => none
theorem ca_str : CaW X (.type "str") gStr := ⟨_, SkE.call_str_str, fun S σ H ρ vs xs z Q R l e k => by
  unfold gStr at e
  split at e
  · cases (Option.some.inj e)
    obtain ⟨v, rfl, h⟩ := l.one
    obtain ⟨rfl, h1, h2⟩ := h.str_iff
    exact ⟨_, rfl, k S H _ R (Stp.refl S σ H ρ) (.str' _ h1 h2)⟩
  · cases e⟩
def gTup : List PV → Option PV
  | [.lst xs] => some (.tup xs)
  | [.tup xs] => some (.tup xs)
  | _ => none
theorem ca_tup : CaW X (.type "tuple") NL.gTup := ⟨_, call_tuple_of, fun S σ H ρ vs xs z Q R l e k => by
  unfold NL.gTup at e
  split at e
  · cases (Option.some.inj e)
    obtain ⟨v, rfl, h⟩ := l.one
    obtain ⟨a, vs, rfl, hq, l⟩ := h.lst_iff R.gh
    refine ⟨a, vs, rfl, .inl ⟨hq, fun d hd => ?_⟩⟩
    obtain ⟨R4, s4⟩ := R.freezeNew (o := .tup vs) hd
    exact k _ _ _ R4 s4 (.tup (.of upd_same) (l.mono s4.le.G))
  · cases (Option.some.inj e)
    obtain ⟨v, rfl, h⟩ := l.one
    cases h with
    | val h =>
      obtain ⟨a, vs, rfl, hq, l⟩ := h.tup_iff
      exact ⟨a, vs, rfl, .inr ⟨R.gh.sqt hq, k S H _ R (Stp.refl S σ H ρ) h⟩⟩
  · cases e⟩
def gList : List PV → Option (List PV)
  | [.lst xs] => some xs
  | [.tup xs] => some xs
  | _ => none
theorem ca_list : CaF X (.type "list") gList := ⟨_, call_list_of, fun S σ H ρ vs xs z Q R l e k => by
  unfold gList at e
  split at e
  · cases (Option.some.inj e)
    obtain ⟨v, rfl, h⟩ := l.one
    obtain ⟨a, vs, rfl, hq, l⟩ := h.lst_iff R.gh
    exact ⟨a, vs, rfl, .inl hq, fun d hd => k d vs hd l⟩
  · cases (Option.some.inj e)
    obtain ⟨v, rfl, h⟩ := l.one
    obtain ⟨a, vs, rfl, hq, l⟩ := h.tup_iff R.gh
    exact ⟨a, vs, rfl, .inr hq, fun d hd => k d vs hd l⟩
  · cases e⟩

/-! ### sep.join(texts) -/
def joinL (sep : List Nat) : List (List Nat) → List Nat
  | [] => []
  | [x] => x
  | x :: xs => x ++ sep ++ joinL sep xs
def itsOf : PV → Option (List PV)
  | .lst xs => some xs
  | .tup xs => some xs
  | _ => none
theorem joinL_ok (sep : List Nat) : ∀ ys : List (List Nat), Txt.join ⟨sep.toArray⟩ (ys.map fun b => (⟨b.toArray⟩ : Str)) = ⟨(joinL sep ys).toArray⟩ := by
  intro ys
  show Builtin.Str.glued _ _ = _
  rw [StrLaws.glued_eq_join]
  induction ys with
  | nil => rfl
  | cons x ys ih =>
    cases ys with
    | nil => rfl
    | cons y ys =>
      show (⟨x.toArray⟩ : Str) ++ ⟨sep.toArray⟩ ++ Str.join ⟨sep.toArray⟩ (List.map (fun b => (⟨b.toArray⟩ : Str)) (y :: ys)) = _
      rw [ih, str_cat, str_cat]
      rfl
theorem joinL_len (sep : List Nat) : ∀ ys : List (List Nat), (joinL sep ys).length ≤ (ys.map (·.length)).sum + ys.length * sep.length
  | [] => Nat.zero_le _
  | [x] => by simp [joinL]
  | x :: y :: ys => by
    have := joinL_len sep (y :: ys)
    unfold joinL
    rw [List.length_append, List.length_append, List.map_cons, List.sum_cons, List.length_cons, Nat.succ_mul]
    omega
theorem mem_joinL {sep : List Nat} {c : Nat} : ∀ {ys : List (List Nat)}, c ∈ joinL sep ys → c ∈ sep ∨ ∃ y ∈ ys, c ∈ y
  | [], h => by cases h
  | [x], h => .inr ⟨x, List.mem_singleton_self _, h⟩
  | x :: y :: ys, h => by
    unfold joinL at h
    rcases List.mem_append.mp h with h | h
    · rcases List.mem_append.mp h with h | h
      · exact .inr ⟨x, List.mem_cons_self .., h⟩
      · exact .inl h
    · rcases mem_joinL h with h | ⟨q, h1, h2⟩
      · exact .inl h
      · exact .inr ⟨q, List.mem_cons_of_mem _ h1, h2⟩
def gJoin (x y : PV) : Option PV := match x with
  | .str sep => (itsOf y).bind fun xs => (strL xs).bind fun ys => if (ys.map (·.length)).sum + ys.length * sep.length ≤ 100000 then some (.str (joinL sep ys)) else none
  | _ => none
def wJoin (wo we : WE) : WE := fun ρ post => wo ρ fun r1 ρ1 => (∃ cs, r1 = .sh (.str cs)) ∧ we ρ1 fun r2 ρ2 => oB (val ρ2 r1) fun x => oB (val ρ2 r2) fun y => oB (gJoin x y) fun z => post (.sh z) ρ2
theorem ew_join {o : Expr} {apos : Pos} {wo we : WE} (ho : EW X o wo) (he : EW X e we) (hs : starEach [e] X.env = [(false, eval e X.env)] := by rfl) (hbase : attributeBase o "join" X.env (eval o X.env) = eval o X.env := by rfl) (hline : (apos.endLine == pos.line) = true := by rfl) :
    EW X (.Call (.Attribute o "join" apos) [e] [] pos) (wJoin wo we) := by
  obtain ⟨ta, a1, a2⟩ := ho.ex
  obtain ⟨tb, b1, b2⟩ := he.ex
  refine ⟨_, pe_join a1 b1 hs hbase hline, fun S σ H ρ Q post R h k => ?_⟩
  refine a2 S σ H ρ _ _ R h fun S1 H1 v1 r1 ρ1 R1 s1 e1 h1 => ?_
  obtain ⟨⟨cs, rfl⟩, h1⟩ := h1
  obtain ⟨rfl, g1, g2⟩ := Is.str_iff e1
  refine ⟨⟨_, rfl⟩, b2 S1 σ H1 ρ1 _ _ R1 h1 fun S2 H2 v2 r2 ρ2 R2 s2 e2 h2 => ?_⟩
  obtain ⟨x, ex, h2⟩ := oB_ex h2
  cases (Option.some.inj ex)
  obtain ⟨y, ey, h2⟩ := oB_ex h2
  obtain ⟨z, ez, h2⟩ := oB_ex h2
  have hy := e2.top R2 ey
  unfold gJoin at ez
  dsimp only at ez
  cases q1 : itsOf y with
  | none => rw [q1] at ez; cases ez
  | some xs =>
    rw [q1] at ez
    cases q2 : strL xs with
    | none => rw [Option.bind_some, q2] at ez; cases ez
    | some ys =>
      rw [Option.bind_some, q2, Option.bind_some] at ez
      split at ez
      · rename_i c
        cases (Option.some.inj ez)
        cases strs_eq q2
        have hsq : ∃ a vs, v2 = .ref a ∧ (SqL X.K H2 a vs ∨ SqT X.K H2 a vs) ∧ IsL X.K S2.G vs (ys.map .str) := by
          cases y with
          | lst ws => cases (Option.some.inj q1); obtain ⟨a, vs, h1, h2, h3⟩ := hy.lst_iff R2.gh; exact ⟨a, vs, h1, .inl h2, h3⟩
          | tup ws => cases (Option.some.inj q1); obtain ⟨a, vs, h1, h2, h3⟩ := hy.tup_iff R2.gh; exact ⟨a, vs, h1, .inr h2, h3⟩
          | _ => cases q1
        obtain ⟨a, vs, rfl, hq, l⟩ := hsq
        obtain ⟨rfl, hch⟩ := l.strsV
        refine ⟨_, a, _, rfl, rfl, hq, ?_, ?_⟩
        · rw [List.map_map, List.length_map, slen]
          have : (ys.map ((fun x : Str => x.length) ∘ fun b => (⟨b.toArray⟩ : Str))) = ys.map (·.length) := List.map_congr_left fun b _ => slen b
          rw [this]
          exact Nat.le_trans c (by decide)
        · rw [joinL_ok]
          exact k S2 H2 _ (.sh (.str (joinL cs ys))) ρ2 R2 (s1.trans s2) (.fz (.str' _ (Nat.le_trans (joinL_len cs ys) (le_line c)) fun q hq => by
            rcases mem_joinL hq with hq | ⟨y, h1, h2⟩
            · exact g2 q hq
            · exact (hch y h1).2 q h2)) h2
      · cases ez
end
end NL

/-! NL8: promises packed, assignments side by side, the reading of wp's. -/
namespace NL
open PySem PySem.Spec PyProof.Rows L2

theorem _root_.L2.Room.units65 {k : Nat} {A : Around} (r : Room k A) : A.units + 65 < cLine := by have := r.un; omega
/-- a def that may be called by its name -/
structure CalW (P : Program) (w : World) (K : PySem.W.Frag) (mg : Str → Option Value) (base : Heap) (k : Nat) (x : Str) (n : Nat) (W : WF0) : Prop where
  ex : ∃ (f : Addr) (fd : FuncData) (ps : List Str), FnOk P w K mg base CX0 k f fd ps (spW K W n) ∧ mg x = some (.ref f) ∧ PySem.W.keepIn K (.ref f) = true ∧ Binds K fd ps []
section
variable {X : Cx} {e : Expr} {es : List Expr} {x : Str} {p pos : Pos} {k j n : Nat} {W : WF0} {wa : WA}
theorem ew_c (c : CalW X.prog X.w X.K X.mg X.base k x n W) (hr : Room j X.A) (ha : AW X (e :: es) wa) (hk : k ≤ j := by decide)
    (hg : Gl X x := by rfl) (hdb : (x == ("__debug__" : Str)) = false := by decide) (he : starEach (e :: es) X.env = (false, eval e X.env) :: starEach es X.env := by rfl) (hpl : (backTo pos (starEach es X.env)).any (·.1) = false := by rfl) :
    EW X (.Call (.Name x p) (e :: es) [] pos) (wCall n W wa) := by
  obtain ⟨f, fd, ps, F, hm, kp, b⟩ := c.ex
  exact ew_call F (hr.mono hk) hm kp b pass0 ha hg hdb he hpl
theorem ef_c (c : CalW X.prog X.w X.K X.mg X.base k x n W) (hr : Room j X.A) (ha : AW X (e :: es) wa) (hk : k ≤ j := by decide)
    (hg : Gl X x := by rfl) (hdb : (x == ("__debug__" : Str)) = false := by decide) (he : starEach (e :: es) X.env = (false, eval e X.env) :: starEach es X.env := by rfl) (hpl : (backTo pos (starEach es X.env)).any (·.1) = false := by rfl) :
    EF X (.Call (.Name x p) (e :: es) [] pos) (wCallF n W wa) := by
  obtain ⟨f, fd, ps, F, hm, kp, b⟩ := c.ex
  exact ef_call F (hr.mono hk) hm kp b pass0 ha hg hdb he hpl
end
section
variable {P : Program} {w : World} {K : PySem.W.Frag} {mg : Str → Option Value} {base : Heap}
/-- THE RULE for a def, packed -/
theorem cal_ok {x qual : Str} {st : Stmt} {f : Addr} {fd : FuncData} {N ps : List Str} {k n : Nat} {W : WF0} (F : Fun K x qual st f fd) (hm : mg x = some (.ref f)) (hb : Binds K fd ps []) (Sc : FnScope N ps (defScope st)) (hn : ps.length = n)
    (body : ∀ (cdv : Value) (A : Around) (outer : List Env) (s : Shared) (H : Hp) (E : XK), Room k (A.deeper (envOfC qual (defScope st) s.heap.objs.size f cdv)) →
      ∃ w', SWs (cxOf CX0 P w K mg base N qual (defScope st) f cdv A outer s H E).nox (defBody st) w' ∧ ∀ xs post, xs.length = n → W xs post → w' { nx := fun ρ => post (.sh .non) (resN ρ), rt := fun r ρ => post r (resN ρ) } (startS N.length xs)) :
    CalW P w K mg base (k + 1) x n W := by
  subst hn
  exact ⟨f, fd, ps, fun_ok F Sc body, hm, F.kp, hb⟩
end
/-! ### side by side -/
def putL : List Nat → List PV → Sls → Option Sls
  | [], [], ρ => some ρ
  | i :: is, x :: xs, ρ => putL is xs (ρ.set i (.sh x))
  | _, _, _ => none
def wPar (is : List Nat) (wa : WA) : WS := fun D ρ => wa ρ fun rs ρ1 => oB (shs rs) fun xs => oB (putL is xs ρ1) D.nx
section
variable {X : Cx} {x y z : Str} {a b c : Expr} {wa : WA} {px py pz pt pos : Pos} {kt k2 : Nat} {pt2 : Pos}
theorem sw_par (i j : Nat) (hN : X.N.Nodup) (hc : X.calm = true) (ha : AW X [a, b] wa) (hij : i ≠ j := by decide) (hi : X.N[i]? = some x := by rfl) (hj : X.N[j]? = some y := by rfl)
    (hx : X.env.scope.names.lookup x = some .local := by rfl) (hy : X.env.scope.names.lookup y = some .local := by rfl)
    (hw : swappedStores [.Tuple [.Name x px, .Name y py] kt pt] (.Tuple [a, b] k2 pt2) X.env = pure (some [x, y]) := by rfl)
    (hs : swapsWithSole [.Tuple [.Name x px, .Name y py] kt pt] (.Tuple [a, b] k2 pt2) pos.line X.env = pure false := by rfl) :
    SW X (.Assign [.Tuple [.Name x px, .Name y py] kt pt] (.Tuple [a, b] k2 pt2) pos) (wPar [i, j] wa) := by
  obtain ⟨t, h1, h2⟩ := ha.ex
  refine ⟨_, ps_par hc hN hi hj hij hx hy h1 hw hs, fun S σ H ρ D E R h k => h2 S σ H ρ _ _ R h fun S1 H1 vs rs ρ1 R1 s1 l1 q => ?_⟩
  obtain ⟨xs, ex, q⟩ := oB_ex q
  obtain ⟨ρ2, e2, q⟩ := oB_ex q
  have l := l1.is ex
  match xs, vs, l, e2 with
  | [x, y], [v, u], .cons i1 (.cons i2 .nil), e2 =>
    cases (Option.some.inj e2)
    exact ⟨v, u, rfl, k.nx S1 _ H1 _ s1.le ((R1.setSh i i1).setSh j i2) q⟩
  | [], _, _, e2 => cases e2
  | [x], _, _, e2 => cases e2
  | x :: y :: z :: r, _, _, e2 => cases e2
end
/-! ### globals -/
theorem ew_gstr {X : Cx} {x : Str} {pos : Pos} (cs : List Nat) (hm : ∃ t, X.mg x = some (.str ⟨cs.toArray⟩ t)) (hg : Gl X x := by rfl) (h : cs.length ≤ 100000 := by decide) (h2 : (cs.all fun c => decide (c < 0x110000)) = true := by decide) (hd : (x == ("__debug__" : Str)) = false := by decide) : EW X (.Name x pos) (wC (.str cs)) := by
  obtain ⟨t, hm⟩ := hm
  exact ew_glob (v := .str ⟨cs.toArray⟩) hg hm ⟨t, rfl⟩ (fun G => .str' cs (le_line h) fun c hc => by simpa using List.all_eq_true.mp h2 c hc) hd
theorem ew_gint {X : Cx} {x : Str} {pos : Pos} (i : Int) (hm : ∃ t, X.mg x = some (.int i t)) (hg : Gl X x := by rfl) (hd : (x == ("__debug__" : Str)) = false := by decide) : EW X (.Name x pos) (wC (.int i)) := by
  obtain ⟨t, hm⟩ := hm
  exact ew_glob (v := .int i) hg hm ⟨t, rfl⟩ (fun G => .int i) hd
end NL

/-! NL9: the law's source of draws: made of an own list. -/
namespace NL
open PySem PySem.Spec PyProof.Rows L2

def unres (ρ : Sls) : Sls := ρ.map fun s => match s with
  | .res _ _ => .un
  | s => s
theorem unres_get {ρ : Sls} {i : Nat} {s : Sl} (h : (unres ρ)[i]? = some s) (hs : s ≠ .un) : ρ[i]? = some s := by
  unfold unres at h
  rw [List.getElem?_map] at h
  cases e : ρ[i]? with
  | none => rw [e] at h; cases h
  | some q =>
    rw [e] at h
    have h' := (Option.some.inj h).symm
    cases q with
    | res k n => exact absurd h' hs
    | _ => rw [h']
def noRes (ρ : Sls) : Bool := ρ.all fun s => match s with
  | .res _ _ => false
  | _ => true
theorem noRes_get {ρ : Sls} (h : noRes ρ = true) {i k n : Nat} : ρ[i]? ≠ some (.res k n) := fun e => by
  have := List.all_eq_true.mp h _ (List.mem_of_getElem? e)
  cases this
section
variable {K : PySem.W.Frag} {S : Gh} {σ : L2.St} {H : Hp} {ρ : Sls}
/-- an own list becomes the source of draws -/
theorem Rep.toRes (R : Rep K S σ H ρ) {i kd n : Nat} {xs : List PV} (hR : S.R = none) (hn : noRes ρ = true) (e : ρ[i]? = some (.own (.lst xs))) (hs : shape kd xs) (hb : kd < 2 ∨ ∃ c a d, xs = [c, .int a, d] ∧ a + n ≤ 2 ^ 60) :
    ∃ r, r.kind = kd ∧ S.H0 r.F = none ∧ Rep K ⟨some r, S.H0, S.G0, S.G⟩ σ H (ρ.set i (.res kd n)) := by
  obtain ⟨p, e1, ⟨vs, e2, l⟩, e3, e4, e5⟩ := R.own i _ e
  refine ⟨⟨kd, p⟩, rfl, e4, R.gg, R.gh, R.gnew, fun a o q _ => R.frame a o q (by rw [hR]; intro z; cases z), ⟨⟨vs, xs, e2, l, hs⟩, fun a ha => ?_⟩, by rw [List.length_set]; exact R.len, fun j x q => ?_, fun j o q => ?_, fun j k oj ok b hjk ej ek sj sk => ?_, fun j k m q => ?_⟩
  · have : a = p := by simpa [Rsc.fp] using ha
    rw [this]; exact e3
  · rcases get_set q with ⟨_, z⟩ | ⟨_, z⟩
    · cases z
    · exact R.sh j x z
  · rcases get_set q with ⟨_, z⟩ | ⟨hj, z⟩
    · cases z
    · obtain ⟨b, f1, f2, f3, f4, f5⟩ := R.own j o z
      refine ⟨b, f1, f2, f3, f4, fun hm => ?_⟩
      have hbp : b = p := by simpa [Rfp, Rsc.fp] using hm
      subst hbp
      exact R.sep i j _ _ b hj e z e1 f1
  · rcases get_set ej with ⟨_, z⟩ | ⟨_, z⟩
    · cases z
    · rcases get_set ek with ⟨_, z'⟩ | ⟨_, z'⟩
      · cases z'
      · exact R.sep j k oj ok b hjk z z' sj sk
  · rcases get_set q with ⟨hj, z⟩ | ⟨_, z⟩
    · cases z
      subst hj
      refine ⟨_, rfl, rfl, e1, ?_⟩
      rcases hb with hb | ⟨c, a, d, rfl, hb⟩
      · exact .inl hb
      · right
        cases l with
        | cons l1 l => cases l with
          | cons l2 l => cases l with
            | cons l3 l => cases l; exact ⟨_, _, a, by rw [e2, l2.int_iff], hb⟩
    · exact absurd z (noRes_get hn)
/-- the source of draws is forgotten -/
theorem Rep.unRes (R : Rep K S σ H ρ) {r : Rsc} (hR : S.R = some r) (h0 : S.H0 r.F = none) : Rep K ⟨none, S.H0, S.G0, S.G⟩ σ H (unres ρ) := by
  refine ⟨R.gg, R.gh, R.gnew, fun a o q _ => R.frame a o q fun z => ?_, trivial, by unfold unres; rw [List.length_map]; exact R.len, fun j x q => R.sh j x (unres_get q (by simp)), fun j o q => ?_, fun j k oj ok b hjk ej ek sj sk => R.sep j k oj ok b hjk (unres_get ej (by simp)) (unres_get ek (by simp)) sj sk, fun j k m q => ?_⟩
  · rw [hR] at z
    have : a = r.F := by simpa [Rfp, Rsc.fp] using z
    rw [this, h0] at q; cases q
  · obtain ⟨b, f1, f2, f3, f4, f5⟩ := R.own j o (unres_get q (by simp))
    exact ⟨b, f1, f2, f3, f4, fun z => by cases z⟩
  · unfold unres at q
    rw [List.getElem?_map] at q
    cases e : ρ[j]? with
    | none => rw [e] at q; cases q
    | some s =>
      rw [e] at q
      cases s <;> cases (Option.some.inj q)
end
def wRes (i kd n : Nat) (w : WS) : WS := fun D ρ => noRes ρ = true ∧ (match ρ[i]? with
  | some (.own (.lst xs)) => shape kd xs ∧ (kd < 2 ∨ ∃ c a d, xs = [c, .int a, d] ∧ a + n ≤ 2 ^ 60)
  | _ => False) ∧ w { nx := fun ρ => D.nx (unres ρ), rt := fun r ρ => (match r with | .sh _ => True | .own _ => False) ∧ D.rt r (unres ρ), bk := fun ρ => D.bk (unres ρ), ct := fun ρ => D.ct (unres ρ) } (ρ.set i (.res kd n))
/-- statements where no source of draws is yet -/
structure SWs0 (X : Cx) (sts : List Stmt) (w : WS) : Prop where
  ex : ∃ t, PSs X sts t ∧ ∀ (S : Gh) (σ : L2.St) (H : Hp) (ρ : Sls) (D : WD) (E : Ends), S.R = none → Rep X.K S σ H ρ → w D ρ → Cp X.K S D E → t E σ H
section
variable {X : Cx} {st : Stmt} {sts : List Stmt} {w u : WS}
theorem sws0_of (h : SWs X sts w) : SWs0 X sts w := by
  obtain ⟨t, h1, h2⟩ := h.ex
  exact ⟨t, h1, fun S σ H ρ D E _ => h2 S σ H ρ D E⟩
theorem sws0_cons (h1 : SW X st w) (h2 : SWs0 X sts u) : SWs0 X (st :: sts) (wSeq w u) := by
  obtain ⟨t1, a1, a2⟩ := h1.ex
  obtain ⟨t2, b1, b2⟩ := h2.ex
  refine ⟨_, pss_cons a1 b1, fun S σ H ρ D E hS R h k => ?_⟩
  exact a2 S σ H ρ { D with nx := u D } _ R h ⟨fun S' σ' H' ρ' s R' h' => b2 S' σ' H' ρ' D E (s.R.trans hS) R' h' (k.le s), k.rt, k.bk, k.ct⟩
/-- from here on the list in slot i is the source of draws -/
theorem sws0_res (i kd n : Nat) (h : SWs X sts w) : SWs0 X sts (wRes i kd n w) := by
  obtain ⟨t, h1, h2⟩ := h.ex
  refine ⟨t, h1, fun S σ H ρ D E hS R hw k => ?_⟩
  obtain ⟨hn, hm, hw⟩ := hw
  split at hm
  · rename_i xs e
    obtain ⟨r, hk, h0, R'⟩ := R.toRes hS hn e hm.1 hm.2
    refine h2 _ σ H _ _ E R' hw ⟨fun S' σ' H' ρ' s R1 q => ?_, fun S' σ' H' ρ' v q s R1 hv d => ?_, fun S' σ' H' ρ' s R1 q => ?_, fun S' σ' H' ρ' s R1 q => ?_⟩
    · exact k.nx ⟨none, S'.H0, S'.G0, S'.G⟩ σ' H' _ ⟨hS.symm, s.H0, s.G0, s.G⟩ (R1.unRes s.R (by rw [s.H0]; exact h0)) q
    · cases q with
      | own _ => exact d.1.elim
      | sh x => exact k.rt ⟨none, S'.H0, S'.G0, S'.G⟩ σ' H' _ v (.sh x) ⟨hS.symm, s.H0, s.G0, s.G⟩ (R1.unRes s.R (by rw [s.H0]; exact h0)) hv d.2
    · exact k.bk ⟨none, S'.H0, S'.G0, S'.G⟩ σ' H' _ ⟨hS.symm, s.H0, s.G0, s.G⟩ (R1.unRes s.R (by rw [s.H0]; exact h0)) q
    · exact k.ct ⟨none, S'.H0, S'.G0, S'.G⟩ σ' H' _ ⟨hS.symm, s.H0, s.G0, s.G⟩ (R1.unRes s.R (by rw [s.H0]; exact h0)) q
  · exact hm.elim
end
/-- what the law asks of its def -/
def spLaw (K : PySem.W.Frag) : Sp := fun vs H Q _ => ∃ (a : Addr) (ns : List Int), vs = [.ref a] ∧ SqL K H a (ns.map V.int) ∧ ns.length ≤ 63 ∧ ∀ H', Q (.bl true) H'
section
variable {P : Program} {w : World} {K : PySem.W.Frag} {mg : Str → Option Value} {base : Heap}
theorem law_ok {qual : Str} {st : Stmt} {f : Addr} {fd : FuncData} {N : List Str} {k : Nat} (F : Fun K "law" qual st f fd) (Sc : FnScope N ["script"] (defScope st))
    (body : ∀ (cdv : Value) (A : Around) (outer : List Env) (s : Shared) (H : Hp) (E : XK), Room k (A.deeper (envOfC qual (defScope st) s.heap.objs.size f cdv)) →
      ∃ w', SWs0 (cxOf CX0 P w K mg base N qual (defScope st) f cdv A outer s H E).nox (defBody st) w' ∧ ∀ ns : List Int, ns.length ≤ 63 → w' { nx := fun _ => False, rt := fun r _ => r = .sh (.bl true) } (startS N.length [.lst (ns.map .int)])) :
    FnOk P w K mg base CX0 (k + 1) f fd ["script"] (spLaw K) := by
  refine F.ok Sc (fun vs H Q E h => ?_) (fun cdv A outer s H vs Q E hr h => ?_)
  · obtain ⟨a, ns, rfl, _⟩ := h
    rfl
  · obtain ⟨a, ns, rfl, hS, hlen, q⟩ := h
    obtain ⟨w', d, q'⟩ := body cdv A outer s H E hr
    obtain ⟨t, h1, h2⟩ := d.ex
    have hl : ArgL K none H H [.ref a] [.lst (ns.map .int)] := .cons (.val (.lst hS (IsL.ints ns))) .nil
    refine ⟨t, h1, h2 ⟨none, H, H, H⟩ _ H _ _ _ rfl (rep_start (R := none) (Sub.refl H) trivial hl) (q' ns hlen) ⟨fun S' σ' H' ρ' s' R' p => p.elim, fun S' σ' H' ρ' v r s' R' hv p => ?_, fun S' σ' H' ρ' s' R' p => p.elim, fun S' σ' H' ρ' s' R' p => p.elim⟩⟩
    subst p
    have e : v = .bl true := Is.bl_iff hv
    subst e
    exact q H'
end
end NL

/-! NL10: what a drawing def promises. -/
namespace NL
open PySem PySem.Spec PyProof.Rows L2

/-- one draw -/
def Wd (kd : Nat) : WF0 := fun xs post => ∃ (n : Nat) (many : Int), xs = [.res kd (n + 1), .int many] ∧ 0 < many ∧ many < 1073741824 ∧ ∀ v, 0 ≤ v → v < many → post (.sh (.int v)) (some n)
theorem draw_open {K : PySem.W.Frag} {kd : Nat} {vs : List V} {H : Hp} {Q : VK} {E : XK} (h : spW K (Wd kd) 2 vs H Q E) :
    ∃ (F : Addr) (many : Int) (G : Hp) (n : Nat) (us : List V) (xs : List PV), vs = [.ref F, .int many] ∧ 0 < many ∧ many < 1073741824 ∧ Sub G H ∧ G F = none ∧ H F = some (.lst us) ∧ IsL K G us xs ∧ shape kd xs ∧
      (kd < 2 ∨ ∃ c d a, us = [c, .int a, d] ∧ a + (n + 1 : Nat) ≤ 2 ^ 60) ∧
      ∀ H' us' xs' v, (∀ a, a ≠ F → H' a = H a) → H' F = some (.lst us') → IsL K G us' xs' → shape kd xs' → (kd < 2 ∨ ∃ c d a, us' = [c, .int a, d] ∧ a + (n : Nat) ≤ 2 ^ 60) → 0 ≤ v → v < many → Q (.int v) H' := by
  obtain ⟨hl, R, G, xs, post, hg, hR, l, ⟨n, many, rfl, h1, h2, hp⟩, k⟩ := h
  cases l with
  | cons a1 l => cases l with
    | cons a2 l => cases l; cases a1 with
      | val z => cases z
      | @res r n' hr hb =>
        have e2 : ∀ {v : V}, ArgAt K R G H v (.int many) → v = .int many := fun z => by
          cases z with
          | val z => exact z.int_iff
        cases e2 a2
        subst hr
        obtain ⟨⟨us, xs, e, li, sh⟩, hn⟩ := hR
        have hGF : G r.F = none := hn r.F (by simp [Rsc.fp])
        refine ⟨r.F, many, G, n, us, xs, rfl, h1, h2, hg, hGF, e, li, sh, ?_, fun H' us' xs' v hf hF l' s' hb' v0 v1 => ?_⟩
        · rcases hb with hb | ⟨c, d, a, q, hb⟩
          · exact .inl hb
          · rw [e] at q
            cases q
            exact .inr ⟨c, d, a, rfl, hb⟩
        · refine k _ _ (hp v v0 v1) ⟨some r, H, G, G⟩ H' (.int v) rfl rfl rfl ⟨Sub.refl G, fun a o q => ?_, fun a q => .inl q, fun a o q hm => ?_, ⟨⟨us', xs', hF, l', s'⟩, hn⟩, rfl, fun i x q => by simp at q, fun i o q => by simp at q, fun i j oi oj p _ q => by simp at q, fun i k n q => by simp at q⟩ (.int v) fun q m hq hm => ?_
          · have q : G a = some o := q
            rw [hf a (fun z => by rw [z, hGF] at q; cases q)]; exact hg a o q
          · rw [hf a (fun z => hm (by rw [z]; simp [Rfp, Rsc.fp]))]; exact q
          · cases hq
            cases hm
            rcases hb' with hb' | ⟨c, d, a, q, hb'⟩
            · exact .inl hb'
            · exact .inr ⟨c, d, a, by rw [hF, q], hb'⟩
theorem dr_if {b : Bool} {P Q : Prop} (h1 : b = true → P) (h2 : b = false → Q) : if b = true then P else Q := by
  cases b with
  | true => rw [if_pos rfl]; exact h1 rfl
  | false => rw [if_neg Bool.false_ne_true]; exact h2 rfl
/-- the first n by place, then m by keyword, in the parameters' order -/
def gApp {α : Type} (n m : Nat) (us ws : List α) : List α := if us.length = n ∧ ws.length = m then us ++ ws else []
theorem Vals.gApp {n m : Nat} {vs zs : List V} {us ws : List Value} (h : Vals vs us) (k : Vals zs ws) : Vals (NL.gApp n m vs zs) (NL.gApp n m us ws) := by
  unfold NL.gApp
  rw [h.length, k.length]
  split
  · exact h.append k
  · exact .nil
theorem ResL.len' {K : PySem.W.Frag} {S : Gh} {σ : L2.St} {vs : List V} {rs : List Res} (h : ResL K S σ vs rs) : vs.length = rs.length := h.len
theorem Ord.gApp (n m : Nat) : Ord (NL.gApp n m) (NL.gApp n m) := ⟨fun l k => by
  unfold NL.gApp
  rw [l.len, k.len]
  split
  · exact l.append k
  · exact .nil⟩
theorem KBinds.gApp {K : PySem.W.Frag} {fd : FuncData} {ps ks : List Str} {n m : Nat} (hne : ps ≠ []) (h : ∀ us ws : List Value, us.length = n → ws.length = m → bindArgs fd ⟨us, ks.zip ws⟩ = pure (ps.zip (us ++ ws))) : KBinds K fd ps ks (NL.gApp n m) (NL.gApp n m) :=
  ⟨fun s us ws _ hl => by
    unfold NL.gApp at hl ⊢
    split at hl
    · rename_i c
      rw [if_pos c]
      exact .of_eq (h us ws c.1 c.2)
    · exact absurd (List.length_eq_zero_iff.mp hl.symm) hne, fun r1 r2 => Vals.gApp r1 r2⟩
/-- a def that may be called with its last parameters by keyword -/
structure CalK (P : Program) (w : World) (K : PySem.W.Frag) (mg : Str → Option Value) (base : Heap) (k : Nat) (x : Str) (n m : Nat) (ks : List Str) (W : WF0) : Prop where
  ex : ∃ (f : Addr) (fd : FuncData) (ps : List Str), FnOk P w K mg base CX0 k f fd ps (spW K W (n + m)) ∧ mg x = some (.ref f) ∧ PySem.W.keepIn K (.ref f) = true ∧ KBinds K fd ps ks (gApp n m) (gApp n m)
section
variable {X : Cx} {e : Expr} {es : List Expr} {kws : List Keyword} {x : Str} {p pos : Pos} {k j n m : Nat} {ks : List Str} {W : WF0} {wa wk : WA}
theorem ew_ck (c : CalK X.prog X.w X.K X.mg X.base k x n m ks W) (hr : Room j X.A) (ha : AW X (e :: es) wa) (hkw : KwW X kws wk) (hk : k ≤ j := by decide)
    (hg : Gl X x := by rfl) (hall : (backToKw pos (keywordEach kws X.env)).all (·.1.isSome) = true := by rfl) (hks : (backToKw pos (keywordEach kws X.env)).filterMap (·.1) = ks := by rfl)
    (hdb : (x == ("__debug__" : Str)) = false := by decide) (he : starEach (e :: es) X.env = (false, eval e X.env) :: starEach es X.env := by rfl)
    (hpl : ((backTo pos (starEach (e :: es) X.env)).any (·.1) || (backToKw pos (keywordEach kws X.env)).any (·.1.isNone)) = false := by rfl) :
    EW X (.Call (.Name x p) (e :: es) kws pos) (wCallK (n + m) W (gApp n m) wa wk) := by
  obtain ⟨f, fd, ps, F, hm, kp, b⟩ := c.ex
  exact ew_callK F (hr.mono hk) hm kp b (.gApp n m) pass0 ha hkw hg hall hks hdb he hpl
end
section
variable {P : Program} {w : World} {K : PySem.W.Frag} {mg : Str → Option Value} {base : Heap}
theorem calk_ok {x qual : Str} {st : Stmt} {f : Addr} {fd : FuncData} {N ps ks : List Str} {k n m : Nat} {W : WF0} (F : Fun K x qual st f fd) (hm : mg x = some (.ref f)) (hb : KBinds K fd ps ks (gApp n m) (gApp n m)) (Sc : FnScope N ps (defScope st)) (hn : ps.length = n + m)
    (body : ∀ (cdv : Value) (A : Around) (outer : List Env) (s : Shared) (H : Hp) (E : XK), Room k (A.deeper (envOfC qual (defScope st) s.heap.objs.size f cdv)) →
      ∃ w', SWs (cxOf CX0 P w K mg base N qual (defScope st) f cdv A outer s H E).nox (defBody st) w' ∧ ∀ xs post, xs.length = n + m → W xs post → w' { nx := fun ρ => post (.sh .non) (resN ρ), rt := fun r ρ => post r (resN ρ) } (startS N.length xs)) :
    CalK P w K mg base (k + 1) x n m ks W := by
  refine ⟨f, fd, ps, ?_, hm, F.kp, hb⟩
  rw [← hn]
  exact fun_ok F Sc fun cdv A outer s H E hr => by
    obtain ⟨w', d, q⟩ := body cdv A outer s H E hr
    exact ⟨w', d, fun xs post hl h => q xs post (hl.trans hn) h⟩
end
end NL

/-! NL11: how a wp is shown. -/
namespace NL
open PySem PySem.Spec PyProof.Rows L2

/-- what these slots hold is forgotten -/
def wForget (ks : List Nat) (w : WS) : WS := fun D ρ => w D (wipeS ρ ks)
theorem Rep.forgetL {K : PySem.W.Frag} {S : Gh} {σ : L2.St} {H : Hp} {ρ : Sls} (R : Rep K S σ H ρ) : ∀ ks : List Nat, Rep K S σ H (wipeS ρ ks)
  | [] => R
  | k :: ks => (Rep.forgetL R ks).setUn k
theorem sws_forget {X : Cx} {sts : List Stmt} {w : WS} (ks : List Nat) (h : SWs X sts w) : SWs X sts (wForget ks w) := by
  obtain ⟨t, h1, h2⟩ := h.ex
  exact ⟨t, h1, fun S σ H ρ D E R hw k => h2 S σ H _ D E (R.forgetL ks) hw k⟩
def noOwnB (ρ : Sls) (vs : List Nat) : Bool := vs.all fun k => match ρ[k]? with
  | some (.own _) => false
  | some (.res _ _) => false
  | _ => true
theorem noOwn_of {ρ : Sls} {vs : List Nat} (h : noOwnB ρ vs = true) : noOwn ρ vs := fun k hk => by
  have := List.all_eq_true.mp h k hk
  refine ⟨fun o e => ?_, fun a n e => ?_⟩
  · rw [e] at this; cases this
  · rw [e] at this; cases this
/-- a comprehension that keeps all and whose items are values -/
theorem wLC_of {α : Type} {T : CTg} {vs : List Nat} {wt : WT} {we : WE} {post : List PV → Sls → Prop} {ρ : Sls} (G F : α → PV) : ∀ (l : List α) (acc : List PV),
    (∀ a ∈ l, ∃ ρ1, setv T (G a) (wipeS ρ vs) = some ρ1 ∧ upN (resN ρ1) ρ1 = ρ1 ∧ upN (resN ρ1) ρ = ρ ∧ (∀ p, p true ρ1 → wt ρ1 p) ∧ ∀ p, p (.sh (F a)) ρ1 → we ρ1 p) →
    post (acc ++ l.map F) ρ → wLC T vs wt we post (l.map G) acc ρ
  | [], acc, _, h => by rw [List.map_nil, List.append_nil] at h; exact h
  | a :: l, acc, hs, h => by
    obtain ⟨ρ1, h1, h2, h3, h4, h5⟩ := hs a (List.mem_cons_self ..)
    rw [List.map_cons, wLC]
    refine oB_of h1 (h4 _ ⟨rfl, ?_⟩)
    rw [if_pos rfl]
    refine h5 _ ⟨h2.symm, ?_⟩
    show wLC T vs wt we post (l.map G) (acc ++ [F a]) (upN (resN ρ1) ρ)
    rw [h3]
    refine wLC_of G F l _ (fun b hb => hs b (List.mem_cons_of_mem _ hb)) ?_
    rw [List.append_assoc]; exact h
/-- a comprehension with a test -/
theorem wLC_if {α : Type} {T : CTg} {vs : List Nat} {wt : WT} {we : WE} {post : List PV → Sls → Prop} {ρ : Sls} (G F : α → PV) (B : α → Bool) : ∀ (l : List α) (acc : List PV),
    (∀ a ∈ l, ∃ ρ1, setv T (G a) (wipeS ρ vs) = some ρ1 ∧ upN (resN ρ1) ρ1 = ρ1 ∧ upN (resN ρ1) ρ = ρ ∧ (∀ p, p (B a) ρ1 → wt ρ1 p) ∧ (B a = true → ∀ p, p (.sh (F a)) ρ1 → we ρ1 p)) →
    post (acc ++ (l.filter B).map F) ρ → wLC T vs wt we post (l.map G) acc ρ
  | [], acc, _, h => by rw [List.filter_nil, List.map_nil, List.append_nil] at h; exact h
  | a :: l, acc, hs, h => by
    obtain ⟨ρ1, h1, h2, h3, h4, h5⟩ := hs a (List.mem_cons_self ..)
    rw [List.map_cons, wLC]
    refine oB_of h1 (h4 _ ⟨rfl, ?_⟩)
    cases hB : B a with
    | true =>
      rw [if_pos rfl]
      refine h5 hB _ ⟨h2.symm, ?_⟩
      show wLC T vs wt we post (l.map G) (acc ++ [F a]) (upN (resN ρ1) ρ)
      rw [h3]
      refine wLC_if G F B l _ (fun b hb => hs b (List.mem_cons_of_mem _ hb)) ?_
      rw [List.filter_cons_of_pos hB] at h
      rw [List.append_assoc]; exact h
    | false =>
      rw [if_neg Bool.false_ne_true]
      refine wLC_if G F B l _ (fun b hb => hs b (List.mem_cons_of_mem _ hb)) ?_
      rw [List.filter_cons_of_neg (by rw [hB]; exact Bool.false_ne_true)] at h
      exact h
theorem wLC_of0 {α : Type} {T : CTg} {vs : List Nat} {wt : WT} {we : WE} {post : List PV → Sls → Prop} {ρ : Sls} (G F : α → PV) (l : List α)
    (h : ∀ a ∈ l, ∃ ρ1, setv T (G a) (wipeS ρ vs) = some ρ1 ∧ upN (resN ρ1) ρ1 = ρ1 ∧ upN (resN ρ1) ρ = ρ ∧ (∀ p, p true ρ1 → wt ρ1 p) ∧ ∀ p, p (.sh (F a)) ρ1 → we ρ1 p) (k : post (l.map F) ρ) : wLC T vs wt we post (l.map G) [] ρ := wLC_of G F l [] h k
theorem gAll_map {α : Type} (f : α → Bool) (l : List α) : gAll [.lst (l.map fun a => .bl (f a))] = some (.bl (l.all f)) := by
  show (blL _).map _ = _
  rw [bls_map]
  simp [List.all_map]
theorem gAny_map {α : Type} (f : α → Bool) (l : List α) : gAny [.lst (l.map fun a => .bl (f a))] = some (.bl (l.any f)) := by
  show (blL _).map _ = _
  rw [bls_map]
  simp [List.any_map]
theorem gSum_map {α : Type} (f : α → Int) (l : List α) : gSum [.lst (l.map fun a => .int (f a))] = some (.int (l.map f).sum) := by
  show (intL _).map _ = _
  rw [ints_map]
  rfl
theorem pairUp_map {α β : Type} (f : α → PV) (g : β → PV) : ∀ (l : List α) (r : List β), pairUp (l.map f) (r.map g) = (l.zip r).map fun q => .tup [f q.1, g q.2]
  | [], _ => rfl
  | _ :: _, [] => rfl
  | a :: l, b :: r => by
    show PV.tup [f a, g b] :: pairUp (l.map f) (r.map g) = _
    rw [pairUp_map f g l r]
    rfl
/-- a for by induction on what is left -/
theorem wLoop_ind {g : WG} {wb : WS} {D : WD} (Inv : List PV → Sls → Prop) (nil : ∀ ρ, Inv [] ρ → D.nx ρ)
    (step : ∀ x xs, (∀ ρ, Inv xs ρ → wLoop g wb D xs ρ) → ∀ ρ, Inv (x :: xs) ρ → g x ρ fun ρ1 => wb { D with nx := wLoop g wb D xs, ct := wLoop g wb D xs, bk := D.nx } ρ1) : ∀ xs ρ, Inv xs ρ → wLoop g wb D xs ρ
  | [], ρ, h => nil ρ h
  | x :: xs, ρ, h => step x xs (wLoop_ind Inv nil step xs) ρ h
theorem wLoop_map {α : Type} {g : WG} {wb : WS} {D : WD} (G : α → PV) (Inv : List α → Sls → Prop) (nil : ∀ ρ, Inv [] ρ → D.nx ρ)
    (step : ∀ x xs, (∀ ρ, Inv xs ρ → wLoop g wb D (xs.map G) ρ) → ∀ ρ, Inv (x :: xs) ρ → g (G x) ρ fun ρ1 => wb { D with nx := wLoop g wb D (xs.map G), ct := wLoop g wb D (xs.map G), bk := D.nx } ρ1) : ∀ xs ρ, Inv xs ρ → wLoop g wb D (xs.map G) ρ
  | [], ρ, h => nil ρ h
  | x :: xs, ρ, h => step x xs (wLoop_map G Inv nil step xs) ρ h

/-! ### slices by plain numbers -/
theorem cut_from {α : Type} (l : List α) (n : Nat) : cutL l (some (n : Int)) none = l.drop n := by
  unfold cutL
  rw [HT.sIx_nat, HT.sIx_none]
  by_cases h : n ≤ l.length
  · rw [Nat.min_eq_left h, List.take_of_length_le (by rw [List.length_drop]; exact Nat.le_refl _)]
  · have : l.length ≤ n := by omega
    rw [Nat.min_eq_right this, List.drop_length, List.drop_of_length_le this]; simp
theorem cut_to {α : Type} (l : List α) (n : Nat) : cutL l none (some (n : Int)) = l.take n := by
  unfold cutL
  rw [HT.sIx_nat, HT.sIx_none, List.drop_zero, Nat.sub_zero]
  by_cases h : n ≤ l.length
  · rw [Nat.min_eq_left h]
  · have : l.length ≤ n := by omega
    rw [Nat.min_eq_right this, List.take_length, List.take_of_length_le this]
theorem cut_mid {α : Type} (l : List α) (a b : Nat) : cutL l (some (a : Int)) (some (b : Int)) = (l.take b).drop a := by
  unfold cutL
  rw [HT.sIx_nat, HT.sIx_nat]
  apply List.ext_getElem?
  intro i
  rw [List.getElem?_take, List.getElem?_drop, List.getElem?_drop, List.getElem?_take]
  by_cases h : a ≤ l.length
  · rw [Nat.min_eq_left h]
    by_cases h1 : i < min b l.length - a
    · rw [if_pos h1, if_pos (by omega)]
    · rw [if_neg h1]
      split
      · rw [List.getElem?_eq_none (by omega)]
      · rfl
  · rw [Nat.min_eq_right (show l.length ≤ a by omega), if_neg (by omega)]
    split
    · rw [List.getElem?_eq_none (by omega)]
    · rfl
theorem cut_init {α : Type} (l : List α) : cutL l none (some (-1)) = l.dropLast := by
  unfold cutL
  have e : HT.sIx l.length l.length (some (-1)) = l.length - 1 := by
    show (if (-1 : Int) < 0 then ((-1 : Int) + (l.length : Int)).toNat else min ((-1 : Int)).toNat l.length) = _
    rw [if_pos (by decide)]
    omega
  rw [HT.sIx_none, List.drop_zero, Nat.sub_zero, e, List.dropLast_eq_take]
theorem nDiv {a b : Nat} (h : 0 < b) (h2 : b < 1073741824) : pDiv (.int a) (.int b) = some (.int ((a / b : Nat) : Int)) := by
  show (if CDiv a b then some (PV.int ((a : Int) / b)) else none) = _
  rw [if_pos ⟨by omega, by omega⟩, Int.natCast_ediv]
theorem nMod {a b : Nat} (h : 0 < b) : pMod (.int a) (.int b) = some (.int ((a % b : Nat) : Int)) := by
  show (if cPos a b then some (PV.int ((a : Int) % b)) else none) = _
  rw [if_pos (show cPos a b from show (0 : Int) < b by omega), Int.natCast_emod]
theorem nMul {a b : Nat} (h : b < 2 ^ 64) : pMul (.int a) (.int b) = some (.int ((a * b : Nat) : Int)) := by
  show (if CMul a b then some (PV.int ((a : Int) * b)) else none) = _
  rw [if_pos (.inr ⟨by omega, by omega⟩), Int.natCast_mul]
theorem nMul' {a b : Nat} (h : a < 2 ^ 64) : pMul (.int a) (.int b) = some (.int ((a * b : Nat) : Int)) := by
  show (if CMul a b then some (PV.int ((a : Int) * b)) else none) = _
  rw [if_pos (.inl ⟨by omega, by omega⟩), Int.natCast_mul]
theorem nAdd {a b : Nat} : pAdd (.int a) (.int b) = some (.int ((a + b : Nat) : Int)) := rfl
theorem nSub {a b : Nat} (h : b ≤ a) : pSub (.int a) (.int b) = some (.int ((a - b : Nat) : Int)) := by
  show some (PV.int ((a : Int) - b)) = _
  rw [Int.ofNat_sub h]
theorem sRep {a : List Nat} {n : Nat} (h : a.length * n ≤ 100000) (h2 : n ≤ 100000) : pMul (.str a) (.int n) = some (.str (List.replicate n a).flatten) := by
  show (if a.length * (n : Int).toNat ≤ 100000 ∧ (n : Int) ≤ 100000 ∧ 0 ≤ (n : Int) then some (PV.str (List.replicate (n : Int).toNat a).flatten) else none) = _
  rw [Int.toNat_natCast, if_pos ⟨h, by omega, by omega⟩]
theorem sAdd {a b : List Nat} (h : a.length + b.length ≤ 100000) : pAdd (.str a) (.str b) = some (.str (a ++ b)) := if_pos h
theorem sTo {a : List Nat} {n : Nat} : pSl (.str a) none (some n) = some (.str (a.take n)) := by
  show some (PV.str (cutL a none (some (n : Int)))) = _
  rw [cut_to]
theorem sFrom {a : List Nat} {n : Nat} : pSl (.str a) (some n) none = some (.str (a.drop n)) := by
  show some (PV.str (cutL a (some (n : Int)) none)) = _
  rw [cut_from]
theorem sMid {a : List Nat} {n m : Nat} : pSl (.str a) (some n) (some m) = some (.str ((a.take m).drop n)) := by
  show some (PV.str (cutL a (some (n : Int)) (some (m : Int)))) = _
  rw [cut_mid]
theorem sInit {a : List Nat} : pSl (.str a) none (some (-1)) = some (.str a.dropLast) := by
  show some (PV.str (cutL a none (some (-1)))) = _
  rw [cut_init]
theorem sIx {a : List Nat} {n c : Nat} (h : a[n]? = some c) : pIx (.str a) (.int n) = some (.str [c]) := by
  show (atI a (n : Int)).map _ = _
  rw [atI_nat h]; rfl
theorem sLast {a : List Nat} {c : Nat} (h : a.getLast? = some c) : pIx (.str a) (.int (-1)) = some (.str [c]) := by
  show (atI a (-1)).map _ = _
  have : a = a.dropLast ++ [c] := by
    have hne : a ≠ [] := by intro z; rw [z] at h; cases h
    have := List.dropLast_concat_getLast hne
    rw [List.getLast?_eq_getLast hne] at h
    rw [← Option.some.inj h]; exact this.symm
  rw [this, atI_last]; rfl
theorem lIx {a : List PV} {n : Nat} {c : PV} (h : a[n]? = some c) : pIx (.lst a) (.int n) = some c := atI_nat h
theorem tIx {a : List PV} {n : Nat} {c : PV} (h : a[n]? = some c) : pIx (.tup a) (.int n) = some c := atI_nat h
theorem atI_neg1 {α : Type} (l : List α) (x : α) : atI (l ++ [x]) (-1) = some x := atI_last l x
end NL
namespace NL
open PySem PySem.Spec PyProof.Rows L2
theorem dr_t {b : Bool} {P Q : Prop} (h : b = true) (p : P) : if b = true then P else Q := by rw [if_pos h]; exact p
theorem dr_f {b : Bool} {P Q : Prop} (h : b = false) (q : Q) : if b = true then P else Q := by rw [if_neg (by rw [h]; exact Bool.false_ne_true)]; exact q
theorem dr_and2 {b1 b2 : Bool} {P Q : Prop} (h : (b1 && b2) = false) (q : Q) : if b1 = true then (if b2 = true then P else Q) else Q := by
  cases b1 with
  | false => rw [if_neg Bool.false_ne_true]; exact q
  | true =>
    rw [if_pos rfl]
    cases b2 with
    | false => rw [if_neg Bool.false_ne_true]; exact q
    | true => cases h
theorem ob {α : Type} {o : Option α} {k : α → Prop} {a : α} (e : o = some a) (h : k a) : oB o k := by rw [e]; exact h
theorem b_add {x y z : PV} {k : PV → Prop} (e : pAdd x y = some z) (h : k z) : oB (pAdd x y) k := ob e h
theorem b_sub {x y z : PV} {k : PV → Prop} (e : pSub x y = some z) (h : k z) : oB (pSub x y) k := ob e h
theorem b_mul {x y z : PV} {k : PV → Prop} (e : pMul x y = some z) (h : k z) : oB (pMul x y) k := ob e h
theorem b_div {x y z : PV} {k : PV → Prop} (e : pDiv x y = some z) (h : k z) : oB (pDiv x y) k := ob e h
theorem b_mod {x y z : PV} {k : PV → Prop} (e : pMod x y = some z) (h : k z) : oB (pMod x y) k := ob e h
theorem b_ix {x y z : PV} {k : PV → Prop} (e : pIx x y = some z) (h : k z) : oB (pIx x y) k := ob e h
theorem b_eq {x y z : PV} {k : PV → Prop} (e : pEq x y = some z) (h : k z) : oB (pEq x y) k := ob e h
theorem b_ne {x y z : PV} {k : PV → Prop} (e : pNe x y = some z) (h : k z) : oB (pNe x y) k := ob e h
theorem b_lt {x y z : PV} {k : PV → Prop} (e : pLt x y = some z) (h : k z) : oB (pLt x y) k := ob e h
theorem b_le {x y z : PV} {k : PV → Prop} (e : pLeI x y = some z) (h : k z) : oB (pLeI x y) k := ob e h
theorem b_gt {x y z : PV} {k : PV → Prop} (e : pGtI x y = some z) (h : k z) : oB (pGtI x y) k := ob e h
theorem b_ge {x y z : PV} {k : PV → Prop} (e : pGeI x y = some z) (h : k z) : oB (pGeI x y) k := ob e h
theorem b_in {x y z : PV} {k : PV → Prop} (e : pIn x y = some z) (h : k z) : oB (pIn x y) k := ob e h
theorem b_nin {x y z : PV} {k : PV → Prop} (e : pNotIn x y = some z) (h : k z) : oB (pNotIn x y) k := ob e h
theorem b_is {x y z : PV} {k : PV → Prop} (e : pIs x y = some z) (h : k z) : oB (pIs x y) k := ob e h
theorem b_pow {x y z : PV} {k : PV → Prop} (e : pPow x y = some z) (h : k z) : oB (pPow x y) k := ob e h
theorem b_join {x y z : PV} {k : PV → Prop} (e : gJoin x y = some z) (h : k z) : oB (gJoin x y) k := ob e h
theorem b_all {x : List PV} {z : PV} {k : PV → Prop} (e : gAll x = some z) (h : k z) : oB (gAll x) k := ob e h
theorem b_any {x : List PV} {z : PV} {k : PV → Prop} (e : gAny x = some z) (h : k z) : oB (gAny x) k := ob e h
theorem b_sum {x : List PV} {z : PV} {k : PV → Prop} (e : gSum x = some z) (h : k z) : oB (gSum x) k := ob e h
theorem b_len {x : List PV} {z : PV} {k : PV → Prop} (e : gLen x = some z) (h : k z) : oB (gLen x) k := ob e h
theorem b_isi {x : List PV} {z : PV} {k : PV → Prop} (e : gIsi x = some z) (h : k z) : oB (gIsi x) k := ob e h
theorem b_max {x : List PV} {z : PV} {k : PV → Prop} (e : gMax x = some z) (h : k z) : oB (gMax x) k := ob e h
theorem b_min {x : List PV} {z : PV} {k : PV → Prop} (e : gMin x = some z) (h : k z) : oB (gMin x) k := ob e h
theorem b_int {x : List PV} {z : PV} {k : PV → Prop} (e : gInt x = some z) (h : k z) : oB (gInt x) k := ob e h
theorem b_str {x : List PV} {z : PV} {k : PV → Prop} (e : gStr x = some z) (h : k z) : oB (gStr x) k := ob e h
theorem b_tup {x : List PV} {z : PV} {k : PV → Prop} (e : NL.gTup x = some z) (h : k z) : oB (NL.gTup x) k := ob e h
theorem b_sl {x z : PV} {a b : Option Int} {k : PV → Prop} (e : pSl x a b = some z) (h : k z) : oB (pSl x a b) k := ob e h
theorem b_after {xs : List PV} {n' : Option Nat} {ρ : Sls} {k : Sls → Prop} (h : hasRes xs = false) (q : k ρ) : oB (after xs n' ρ) k := by unfold after; rw [h, if_neg Bool.false_ne_true]; exact q
theorem ob_if {α : Type} {c : Prop} [Decidable c] {a : α} {k : α → Prop} (h : c) (q : k a) : oB (if c then some a else none) k := by rw [if_pos h]; exact q
/-- no more draws than these -/
def leO : Option Nat → Option Nat → Prop
  | some a, some b => a ≤ b
  | none, _ => True
  | _, _ => False
section
variable {P : Program} {w : World} {K : PySem.W.Frag} {mg : Str → Option Value} {base : Heap}
theorem fun_okW {x qual : Str} {st : Stmt} {f : Addr} {fd : FuncData} {N ps : List Str} {k : Nat} {W : WF0} (F : Fun K x qual st f fd) (Sc : FnScope N ps (defScope st))
    (body : ∀ (cdv : Value) (A : Around) (outer : List Env) (s : Shared) (H : Hp) (E : XK), Room k (A.deeper (envOfC qual (defScope st) s.heap.objs.size f cdv)) →
      ∃ w', SWs (cxOf CX0 P w K mg base N qual (defScope st) f cdv A outer s H E).nox (defBody st) w' ∧ ∀ xs post, xs.length = ps.length → W xs post → w' { nx := fun _ => False, rt := fun r ρ => ∃ m, leO m (resN ρ) ∧ post r m } (startS N.length xs)) :
    FnOk P w K mg base CX0 (k + 1) f fd ps (spW K W ps.length) := by
  refine F.ok Sc (fun vs H Q E h => h.1) (fun cdv A outer s H vs Q E hr h => ?_)
  obtain ⟨hl, R, G, xs, post, hg, hR, l, hw, k'⟩ := h
  obtain ⟨w', d, q⟩ := body cdv A outer s H E hr
  obtain ⟨t, h1, h2⟩ := d.ex
  refine ⟨t, h1, h2 ⟨R, H, G, G⟩ _ H _ _ _ (rep_start hg hR l) (q xs post (by rw [← l.len]; exact hl) hw) ⟨fun S' σ' H' ρ' s' R' p => p.elim, fun S' σ' H' ρ' v r s' R' hv p => ?_, fun S' σ' H' ρ' s' R' p => p.elim, fun S' σ' H' ρ' s' R' p => p.elim⟩⟩
  obtain ⟨m, hm, p⟩ := p
  refine k' _ _ p S' H' v s'.R s'.H0 s'.G0 R'.forget hv fun q m' e1 e2 => ?_
  subst e2
  cases e3 : resN ρ' with
  | none => rw [e3] at hm; exact hm.elim
  | some b =>
    rw [e3] at hm
    obtain ⟨i, k0, e⟩ := resN_get e3
    obtain ⟨q', g1, _, _, g2⟩ := R'.rsl i k0 b e
    have : q' = q := Option.some.inj (g1.symm.trans (s'.R.trans e1))
    rw [← this]
    rcases g2 with g2 | ⟨c, d, a, g3, g4⟩
    · exact .inl g2
    · have hm' : m' ≤ b := hm
      exact .inr ⟨c, d, a, g3, by omega⟩
theorem cal_okW {x qual : Str} {st : Stmt} {f : Addr} {fd : FuncData} {N ps : List Str} {k n : Nat} {W : WF0} (F : Fun K x qual st f fd) (hm : mg x = some (.ref f)) (hb : Binds K fd ps []) (Sc : FnScope N ps (defScope st)) (hn : ps.length = n)
    (body : ∀ (cdv : Value) (A : Around) (outer : List Env) (s : Shared) (H : Hp) (E : XK), Room k (A.deeper (envOfC qual (defScope st) s.heap.objs.size f cdv)) →
      ∃ w', SWs (cxOf CX0 P w K mg base N qual (defScope st) f cdv A outer s H E).nox (defBody st) w' ∧ ∀ xs post, xs.length = n → W xs post → w' { nx := fun _ => False, rt := fun r ρ => ∃ m, leO m (resN ρ) ∧ post r m } (startS N.length xs)) :
    CalW P w K mg base (k + 1) x n W := by
  subst hn
  exact ⟨f, fd, ps, fun_okW F Sc body, hm, F.kp, hb⟩
end
end NL

namespace T73
/-! ### endless words -/
def inf (s l : List Nat) (i : Nat) : Nat := if i < s.length then s.getD i 0 else l.getD ((i - s.length) % l.length) 0
def pre (s l : List Nat) (n : Nat) : List Nat := (List.range n).map (inf s l)
theorem pre_iff {s l s' l' : List Nat} {n : Nat} : pre s l n = pre s' l' n ↔ ∀ i, i < n → inf s l i = inf s' l' i := by
  constructor
  · intro h i hi
    have := congrArg (fun q => q[i]?) h
    simpa [pre, List.getElem?_map, List.getElem?_range hi] using this
  · intro h
    exact List.map_congr_left fun i hi => h i (List.mem_range.mp hi)
theorem rep_get (l : List Nat) : ∀ (k j : Nat), j < k * l.length → ((List.replicate k l).flatten)[j]? = l[j % l.length]?
  | 0, j, h => by omega
  | k + 1, j, h => by
    rw [List.replicate_succ, List.flatten_cons]
    by_cases hj : j < l.length
    · rw [List.getElem?_append_left hj, Nat.mod_eq_of_lt hj]
    · rw [Nat.succ_mul] at h
      rw [List.getElem?_append_right (by omega), rep_get l k (j - l.length) (by omega)]
      rw [show j % l.length = (j - l.length) % l.length from Nat.mod_eq_sub_mod (by omega)]
theorem flat_len (l : List Nat) (n : Nat) : (List.replicate n l).flatten.length = n * l.length := by
  rw [List.length_flatten, List.map_replicate, List.sum_replicate_nat]
theorem pre_of {s l : List Nat} {k n : Nat} (h : n ≤ s.length + k * l.length) : (s ++ (List.replicate k l).flatten).take n = pre s l n := by
  apply List.ext_getElem?
  intro i
  unfold pre
  rw [List.getElem?_take, List.getElem?_map]
  by_cases hi : i < n
  · rw [if_pos hi, List.getElem?_range hi]
    show _ = some (inf s l i)
    unfold inf
    by_cases h1 : i < s.length
    · rw [List.getElem?_append_left h1, if_pos h1, List.getD_eq_getElem?_getD, List.getElem?_eq_getElem h1]; rfl
    · have hl : 0 < l.length := by
        rcases Nat.eq_zero_or_pos l.length with z | z
        · rw [z] at h; omega
        · exact z
      rw [List.getElem?_append_right (by omega), if_neg h1, rep_get l k _ (by omega), List.getD_eq_getElem?_getD, List.getElem?_eq_getElem (Nat.mod_lt _ hl)]
      rfl
  · rw [if_neg hi, List.getElem?_eq_none (by rw [List.length_range]; omega)]; rfl
/-! ### periods -/
def Per (u : Nat → Nat) (b p : Nat) : Prop := ∀ i, b ≤ i → u (i + p) = u i
theorem Per.mul {u : Nat → Nat} {b p : Nat} (h : Per u b p) : ∀ k i, b ≤ i → u (i + p * k) = u i
  | 0, i, _ => by simp
  | k + 1, i, hi => by
    rw [Nat.mul_succ, ← Nat.add_assoc, h _ (by omega), Per.mul h k i hi]
theorem Per.later {u : Nat → Nat} {b c p : Nat} (h : Per u b p) (hc : b ≤ c) : Per u c p := fun i hi => h i (by omega)
theorem Per.gcd {u : Nat → Nat} {b : Nat} : ∀ p q, Per u b p → Per u b q → Per u b (Nat.gcd p q) := by
  intro p q
  induction p, q using Nat.gcd.induction with
  | H0 n => intro _ h; rw [Nat.gcd_zero_left]; exact h
  | H1 m n hm ih =>
    intro h1 h2
    rw [Nat.gcd_rec]
    refine ih (fun i hi => ?_) h1
    have e := h1.mul (n / m) (i + n % m) (by omega)
    have e2 : i + n % m + m * (n / m) = i + n := by have := Nat.mod_add_div n m; omega
    rw [e2, h2 i hi] at e
    exact e.symm
theorem inf_per {s l : List Nat} : Per (inf s l) s.length l.length := fun i hi => by
  unfold inf
  rw [if_neg (by omega), if_neg (by omega)]
  congr 1
  rw [show i + l.length - s.length = (i - s.length) + l.length by omega, Nat.add_mod_right]
theorem fw {u v : Nat → Nat} {b p q : Nat} (hp : 0 < p) (hq : 0 < q) (hu : Per u b p) (hv : Per v b q) (h : ∀ i, i < b + p + q → u i = v i) : ∀ i, u i = v i := by
  have red : ∀ {w : Nat → Nat} {r : Nat}, 0 < r → Per w b r → ∀ i, b ≤ i → w i = w (b + (i - b) % r) ∧ (i - b) % r < r := fun {w r} hr hw i hi => by
    refine ⟨?_, Nat.mod_lt _ hr⟩
    have := hw.mul ((i - b) / r) (b + (i - b) % r) (by omega)
    have e : b + (i - b) % r + r * ((i - b) / r) = i := by have := Nat.mod_add_div (i - b) r; omega
    rw [e] at this; exact this
  have hvp : Per v b p := fun i hi => by
    obtain ⟨e, hl⟩ := red hq hv i hi
    have e2 : v (i + p) = v (b + (i - b) % q + p) := by
      have := hv.mul ((i - b) / q) (b + (i - b) % q + p) (by omega)
      have e : b + (i - b) % q + p + q * ((i - b) / q) = i + p := by have := Nat.mod_add_div (i - b) q; omega
      rw [e] at this; exact this
    rw [e2, e, ← h _ (by omega), ← h _ (by omega)]
    exact hu _ (by omega)
  intro i
  by_cases hi : i < b
  · exact h i (by omega)
  · obtain ⟨e1, hl⟩ := red hp hu i (by omega)
    obtain ⟨e2, _⟩ := red hp hvp i (by omega)
    rw [e1, e2]
    exact h _ (by omega)
/-- equal far enough is equal -/
theorem inf_far {s l s' l' : List Nat} (hl : l ≠ []) (hl' : l' ≠ []) {n : Nat} (hn : max s.length s'.length + l.length + l'.length ≤ n) : pre s l n = pre s' l' n ↔ ∀ i, inf s l i = inf s' l' i := by
  rw [pre_iff]
  refine ⟨fun h => ?_, fun h i _ => h i⟩
  exact fw (List.length_pos_iff.mpr hl) (List.length_pos_iff.mpr hl') (inf_per.later (Nat.le_max_left ..)) (inf_per.later (Nat.le_max_right ..)) fun i hi => h i (by omega)

/-! ### the least form -/
structure Can (u : Nat → Nat) (s l : List Nat) : Prop where
  eq : ∀ i, inf s l i = u i
  ne : l ≠ []
  prim : ∀ b g, 0 < g → g ∣ l.length → Per u b g → g = l.length
  last : s = [] ∨ s.getLast? ≠ l.getLast?
theorem Can.min {u : Nat → Nat} {s l : List Nat} (c : Can u s l) {b p : Nat} (hp : 0 < p) (h : Per u b p) : l.length ∣ p ∧ s.length ≤ b := by
  have hu : Per u s.length l.length := fun i hi => by rw [← c.eq, ← c.eq]; exact inf_per i hi
  have hl : 0 < l.length := List.length_pos_iff.mpr c.ne
  have hd : l.length ∣ p := by
    have := Per.gcd p l.length (h.later (Nat.le_max_left b s.length)) (hu.later (Nat.le_max_right b s.length))
    have e := c.prim _ _ (Nat.gcd_pos_of_pos_right _ hl) (Nat.gcd_dvd_right ..) this
    rw [← e]; exact Nat.gcd_dvd_left ..
  refine ⟨hd, Nat.le_of_not_lt fun hlt => ?_⟩
  have hne : s ≠ [] := by intro z; rw [z] at hlt; simp at hlt
  have hs : 0 < s.length := List.length_pos_iff.mpr hne
  rcases c.last with z | z
  · exact hne z
  · obtain ⟨k, rfl⟩ := hd
    have e1 := h (s.length - 1) (by omega)
    have hk : 0 < k := by
      rcases Nat.eq_zero_or_pos k with z | z
      · rw [z] at hp; omega
      · exact z
    have e2 : u (s.length - 1 + l.length * k) = u (s.length - 1 + l.length) := by
      have := hu.mul (k - 1) (s.length - 1 + l.length) (by omega)
      have e : s.length - 1 + l.length + l.length * (k - 1) = s.length - 1 + l.length * k := by
        obtain ⟨m, rfl⟩ : ∃ m, k = m + 1 := ⟨k - 1, by omega⟩
        rw [Nat.add_sub_cancel, Nat.mul_succ]; omega
      rw [e] at this; exact this
    rw [e2, ← c.eq, ← c.eq] at e1
    unfold inf at e1
    rw [if_neg (by omega), if_pos (by omega)] at e1
    have e3 : s.length - 1 + l.length - s.length = l.length - 1 := by omega
    rw [e3, Nat.mod_eq_of_lt (by omega)] at e1
    apply z
    rw [List.getLast?_eq_getElem?, List.getLast?_eq_getElem?]
    rw [List.getD_eq_getElem?_getD, List.getD_eq_getElem?_getD, List.getElem?_eq_getElem (by omega), List.getElem?_eq_getElem (by omega)] at e1
    rw [List.getElem?_eq_getElem (by omega), List.getElem?_eq_getElem (by omega)]
    exact congrArg some e1.symm
theorem Can.per {u : Nat → Nat} {s l : List Nat} (c : Can u s l) : Per u s.length l.length := fun i hi => by rw [← c.eq, ← c.eq]; exact inf_per i hi
theorem Can.unique {u : Nat → Nat} {s l s' l' : List Nat} (c : Can u s l) (d : Can u s' l') : s = s' ∧ l = l' := by
  have hl : 0 < l.length := List.length_pos_iff.mpr c.ne
  have hl' : 0 < l'.length := List.length_pos_iff.mpr d.ne
  obtain ⟨a1, a2⟩ := c.min hl' d.per
  obtain ⟨b1, b2⟩ := d.min hl c.per
  have e1 : l.length = l'.length := Nat.dvd_antisymm a1 b1
  have e2 : s.length = s'.length := Nat.le_antisymm a2 b2
  constructor
  · apply List.ext_getElem e2
    intro i h1 h2
    have e := (c.eq i).trans (d.eq i).symm
    unfold inf at e
    rw [if_pos h1, if_pos h2, List.getD_eq_getElem?_getD, List.getD_eq_getElem?_getD, List.getElem?_eq_getElem h1, List.getElem?_eq_getElem h2] at e
    exact e
  · apply List.ext_getElem e1
    intro i h1 h2
    have e := (c.eq (s.length + i)).trans (d.eq (s.length + i)).symm
    unfold inf at e
    rw [if_neg (by omega), if_neg (by omega), show s.length + i - s.length = i by omega, show s.length + i - s'.length = i by omega, Nat.mod_eq_of_lt h1, Nat.mod_eq_of_lt h2] at e
    rw [List.getD_eq_getElem?_getD, List.getD_eq_getElem?_getD, List.getElem?_eq_getElem h1, List.getElem?_eq_getElem h2] at e
    exact e
/-- a period that makes the loop -/
def Good (l : List Nat) (p : Nat) : Prop := l.length % p = 0 ∧ (List.replicate (l.length / p) (l.take p)).flatten = l
theorem Good.full {l : List Nat} (h : l ≠ []) : Good l l.length := by
  have hl : 0 < l.length := List.length_pos_iff.mpr h
  refine ⟨Nat.mod_self _, ?_⟩
  rw [Nat.div_self hl, List.take_length]; simp
theorem Good.inf {l : List Nat} {p : Nat} (hp : 0 < p) (hl : l ≠ []) (g : Good l p) (s : List Nat) : ∀ i, inf s (l.take p) i = inf s l i := by
  intro i
  have hn : 0 < l.length := List.length_pos_iff.mpr hl
  have hd : p ∣ l.length := Nat.dvd_of_mod_eq_zero g.1
  have hle : p ≤ l.length := Nat.le_of_dvd hn hd
  have ht : (l.take p).length = p := by rw [List.length_take]; omega
  unfold T73.inf
  by_cases h : i < s.length
  · rw [if_pos h, if_pos h]
  · rw [if_neg h, if_neg h, ht, List.getD_eq_getElem?_getD, List.getD_eq_getElem?_getD]
    have := rep_get (l.take p) (l.length / p) ((i - s.length) % l.length) (by rw [ht, Nat.div_mul_cancel hd]; exact Nat.mod_lt _ hn)
    rw [g.2, ht, Nat.mod_mod_of_dvd _ hd] at this
    rw [this]
theorem Good.prim {l s : List Nat} {p : Nat} (hp : 0 < p) (hl : l ≠ []) (g : Good l p) (h : ∀ q, 0 < q → q < p → ¬ Good l q) : ∀ b r, 0 < r → r ∣ (l.take p).length → Per (T73.inf s l) b r → r = (l.take p).length := by
  intro b r hr hd hper
  have hn : 0 < l.length := List.length_pos_iff.mpr hl
  have hpd : p ∣ l.length := Nat.dvd_of_mod_eq_zero g.1
  have hle : p ≤ l.length := Nat.le_of_dvd hn hpd
  have ht : (l.take p).length = p := by rw [List.length_take]; omega
  rw [ht] at hd ⊢
  have hrp : r ≤ p := Nat.le_of_dvd hp hd
  rcases Nat.lt_or_ge r p with z | z
  · refine absurd ⟨?_, ?_⟩ (h r hr z)
    · exact Nat.mod_eq_zero_of_dvd (Nat.dvd_trans hd hpd)
    · have hrl : r ∣ l.length := Nat.dvd_trans hd hpd
      have htr : (l.take r).length = r := by rw [List.length_take]; omega
      apply List.ext_getElem?
      intro j
      by_cases hj : j < l.length
      · rw [rep_get _ _ _ (by rw [htr, Nat.div_mul_cancel hrl]; exact hj), htr, List.getElem?_take, if_pos (Nat.mod_lt _ hr)]
        have at_ : ∀ m, m < l.length → T73.inf s l (s.length + l.length * b + m) = l.getD m 0 := fun m hm => by
          unfold T73.inf
          rw [if_neg (by omega), show s.length + l.length * b + m - s.length = l.length * b + m by omega, Nat.mul_add_mod, Nat.mod_eq_of_lt hm]
        have hb : b ≤ l.length * b := Nat.le_mul_of_pos_left _ hn
        have e := hper.mul (j / r) (s.length + l.length * b + j % r) (by omega)
        have e2 : s.length + l.length * b + j % r + r * (j / r) = s.length + l.length * b + j := by have := Nat.mod_add_div j r; omega
        have hjr : j % r < l.length := Nat.lt_of_lt_of_le (Nat.mod_lt _ hr) (by omega)
        rw [e2, at_ j hj, at_ _ hjr, List.getD_eq_getElem?_getD, List.getD_eq_getElem?_getD, List.getElem?_eq_getElem hj, List.getElem?_eq_getElem hjr] at e
        rw [List.getElem?_eq_getElem hj, List.getElem?_eq_getElem hjr]
        exact congrArg some e.symm
      · rw [List.getElem?_eq_none (by rw [flat_len, htr, Nat.div_mul_cancel hrl]; omega), List.getElem?_eq_none (by omega)]
  · omega
/-- the loop turned back by one -/
theorem turn_inf (s l : List Nat) (x : Nat) : ∀ i, inf s (x :: l) i = inf (s ++ [x]) (l ++ [x]) i := by
  intro i
  unfold inf
  rw [List.length_append, List.length_append, List.length_singleton, List.length_cons]
  by_cases h : i < s.length
  · rw [if_pos h, if_pos (by omega), List.getD_eq_getElem?_getD, List.getD_eq_getElem?_getD, List.getElem?_append_left h]
  · rw [if_neg h]
    by_cases h1 : i < s.length + 1
    · have : i = s.length := by omega
      subst this
      rw [if_pos h1, Nat.sub_self, Nat.zero_mod]
      simp
    · rw [if_neg h1, List.getD_eq_getElem?_getD, List.getD_eq_getElem?_getD]
      obtain ⟨j, rfl⟩ : ∃ j, i = s.length + 1 + j := ⟨i - (s.length + 1), by omega⟩
      rw [show s.length + 1 + j - s.length = j + 1 by omega, show s.length + 1 + j - (s.length + 1) = j by omega]
      have hm : j % (l.length + 1) < l.length + 1 := Nat.mod_lt j (Nat.succ_pos l.length)
      have hj := Nat.div_add_mod j (l.length + 1)
      by_cases h2 : j % (l.length + 1) = l.length
      · have e : (j + 1) % (l.length + 1) = 0 := by
          have : j + 1 = (l.length + 1) * (j / (l.length + 1) + 1) := by rw [Nat.mul_succ]; omega
          rw [this, Nat.mul_mod_right]
        rw [e, h2]
        simp
      · have e : (j + 1) % (l.length + 1) = j % (l.length + 1) + 1 := by
          have : j + 1 = (l.length + 1) * (j / (l.length + 1)) + (j % (l.length + 1) + 1) := by omega
          rw [this, Nat.mul_add_mod, Nat.mod_eq_of_lt (by omega)]
        rw [e, List.getElem?_cons_succ, List.getElem?_append_left (by omega)]
end T73

namespace T73
open PySem PySem.Spec PyProof.Rows L2 NL
abbrev DD (post : RV → Option Nat → Prop) : WD := { nx := fun ρ => post (.sh .non) (resN ρ), rt := fun r ρ => post r (resN ρ) }
def abc : List Nat := [97, 98, 99, 100, 101, 102, 103, 104, 105, 106, 107, 108, 109, 110, 111, 112, 113, 114, 115, 116, 117, 118, 119, 120, 121, 122]
def asc : List Nat → Bool := fun row => (row.zip (row.drop 1)).all fun q => ltL [q.1] [q.2]
def Lt (L : List Nat) : Prop := 1 ≤ L.length ∧ L.length ≤ 3 ∧ (∀ c ∈ L, c ∈ abc) ∧ asc L = true
def W_is_ascending : WF0 := fun xs post => ∃ cs : List Nat, xs = [.str cs] ∧ cs.length ≤ 1000 ∧ post (.sh (.bl (asc cs))) none
-- slots: 0 row, 1 one, 2 other
def w_is_ascending : WS := (wRet (wB gAll (wCons (wFz (wComp (.many [1, 2]) [1, 2] (wZip (wCons (wVar 0) (wCons (wSl (wVar 0) (wO1 (wC (.int 1))) wO0) wNil))) wYes (wOp pLt (wVar 1) (wVar 2)))) wNil)))
theorem v_is_ascending : ∀ xs post, xs.length = 1 → W_is_ascending xs post → w_is_ascending (DD post) (startS 3 xs) := by
  rintro xs post - ⟨cs, rfl, hl, h⟩
  have e1 : cutL cs (some 1) none = cs.drop 1 := cut_from cs 1
  have e2 : pairUp (cs.map fun c => PV.str [c]) ((cutL cs (some 1) none).map fun c => PV.str [c]) = (cs.zip (cs.drop 1)).map fun q => .tup [.str [q.1], .str [q.2]] := by rw [e1, pairUp_map]
  have e3 : (cs.zip (cs.drop 1)).length ≤ 100000 := by rw [List.length_zip]; omega
  refine ⟨by rw [e2, List.length_map]; exact e3, noOwn_of rfl, ?_⟩
  rw [e2]
  exact wLC_of0 _ (fun q : Nat × Nat => .bl (ltL [q.1] [q.2])) _ (fun q hq => ⟨_, rfl, rfl, rfl, fun p h => h, fun p h => h⟩) (b_all (gAll_map _ _) h)
def W_is_letter : WF0 := fun xs post => ∃ c, xs = [.str [c]] ∧ post (.sh (.bl (decide (c ∈ abc)))) none
-- slots: 0 value
def w_is_letter : WS := (wRet (wAnd (wB gIsi (wCons (wVar 0) (wCons (wC (.ty "str")) wNil))) (wAnd (wOp pEq (wB gLen (wCons (wVar 0) wNil)) (wC (.int 1))) (wOp pIn (wVar 0) (wC (.str [97, 98, 99, 100, 101, 102, 103, 104, 105, 106, 107, 108, 109, 110, 111, 112, 113, 114, 115, 116, 117, 118, 119, 120, 121, 122]))))))
theorem v_is_letter : ∀ xs post, xs.length = 1 → W_is_letter xs post → w_is_letter (DD post) (startS 1 xs) := by
  rintro xs post - ⟨c, rfl, h⟩
  exact h
def W_is_alphabet : WF0 := fun xs post => ∃ cs : List Nat, xs = [.str cs] ∧ Lt cs ∧ post (.sh (.bl true)) none
-- slots: 0 value, 1 letter
def w_is_alphabet : WS := (wSeq (wIfS (wOrT (wNotT (wTest (wB gIsi (wCons (wVar 0) (wCons (wC (.ty "str")) wNil))))) (wNotT (wTest (wChain pLeI pLeI (wC (.int 1)) (wB gLen (wCons (wVar 0) wNil)) (wC (.int 3)))))) (wRet (wC (.bl false))) wNext) (wRet (wAnd (wB gAll (wCons (wFz (wComp (.one 1) [1] (wIter (wVar 0)) wYes (wCall 1 W_is_letter (wCons (wVar 1) wNil)))) wNil)) (wCall 1 W_is_ascending (wCons (wVar 0) wNil)))))
theorem v_is_alphabet : ∀ xs post, xs.length = 1 → W_is_alphabet xs post → w_is_alphabet (DD post) (startS 2 xs) := by
  rintro xs post - ⟨cs, rfl, ⟨h1, h2, h3, h4⟩, h⟩
  have e1 : decide ((1 : Int) ≤ cs.length) = true := decide_eq_true (by omega)
  have e2 : decide ((cs.length : Int) ≤ 3) = true := decide_eq_true (by omega)
  refine dr_t e1 ?_
  refine dr_f (by rw [e2]; rfl) ?_
  refine ⟨by rw [List.length_map]; omega, noOwn_of rfl, ?_⟩
  refine wLC_of0 _ (fun c => .bl (decide (c ∈ abc))) _ (fun c hc => ⟨_, rfl, rfl, rfl, fun p h => h, fun p h => ⟨rfl, c, rfl, .inl rfl, h⟩⟩) (b_all (gAll_map _ _) ?_)
  refine dr_t (List.all_eq_true.mpr fun c hc => decide_eq_true (h3 c hc)) ⟨rfl, cs, rfl, by omega, .inl rfl, ?_⟩
  rw [h4]; exact h
/-- a word over letters? -/
def inL (L cs : List Nat) : Bool := cs.all fun c => decide (c ∈ L)
def wordB (L : List Nat) : PV → Option Bool
  | .str cs => if cs.length ≤ 1000 then some (inL L cs) else none
  | .non => some false
  | .bl _ => some false
  | .int _ => some false
  | .tup _ => some false
  | .lst _ => some false
  | _ => none
def W_is_word : WF0 := fun xs post => ∃ (L : List Nat) (v : PV) (b : Bool), xs = [.str L, v] ∧ wordB L v = some b ∧ post (.sh (.bl b)) none
-- slots: 0 letters, 1 value, 2 letter
def w_is_word : WS := (wRet (wAnd (wB gIsi (wCons (wVar 1) (wCons (wC (.ty "str")) wNil))) (wB gAll (wCons (wFz (wComp (.one 2) [2] (wIter (wVar 1)) wYes (wOp pIn (wVar 2) (wVar 0)))) wNil))))
theorem v_is_word : ∀ xs post, xs.length = 2 → W_is_word xs post → w_is_word (DD post) (startS 3 xs) := by
  rintro xs post - ⟨L, v, b, rfl, e, h⟩
  cases v with
  | str cs =>
    have e : (if cs.length ≤ 1000 then some (inL L cs) else none) = some b := e
    split at e
    · rename_i hl
      cases (Option.some.inj e)
      refine ⟨by rw [List.length_map]; omega, noOwn_of rfl, ?_⟩
      exact wLC_of0 _ (fun c => .bl (decide (c ∈ L))) _ (fun c hc => ⟨_, rfl, rfl, rfl, fun p h => h, fun p h => h⟩) (b_all (gAll_map _ _) h)
    · cases e
  | non => cases (Option.some.inj e); exact h
  | bl _ => cases (Option.some.inj e); exact h
  | int _ => cases (Option.some.inj e); exact h
  | tup _ => cases (Option.some.inj e); exact h
  | lst _ => cases (Option.some.inj e); exact h
  | _ => cases e
def W_check_alphabet : WF0 := fun xs post => ∃ L : List Nat, xs = [.str L] ∧ Lt L ∧ post (.sh .non) none
-- slots: 0 letters
def w_check_alphabet : WS := (wIfS (wNotT (wTest (wCall 1 W_is_alphabet (wCons (wVar 0) wNil)))) wNever wNext)
theorem v_check_alphabet : ∀ xs post, xs.length = 1 → W_check_alphabet xs post → w_check_alphabet (DD post) (startS 1 xs) := by
  rintro xs post - ⟨L, rfl, hL, h⟩
  exact ⟨rfl, L, rfl, hL, .inl rfl, h⟩
structure Vd (L s l : List Nat) : Prop where
  hL : Lt L
  ws : inL L s = true
  wl : inL L l = true
  ne : l ≠ []
  sl : s.length ≤ 1000
  ll : l.length ≤ 1000
theorem wordB_str {L cs : List Nat} (h : cs.length ≤ 1000) : wordB L (.str cs) = some (inL L cs) := if_pos h
def W_check_round : WF0 := fun xs post => ∃ L s l : List Nat, xs = [.str L, .str s, .str l] ∧ Vd L s l ∧ post (.sh .non) none
-- slots: 0 letters, 1 start, 2 loop
def w_check_round : WS := (wSeq (wIfS (wNotT (wTest (wCall 2 W_is_word (wCons (wVar 0) (wCons (wVar 1) wNil))))) wNever wNext) (wIfS (wOrT (wNotT (wTest (wCall 2 W_is_word (wCons (wVar 0) (wCons (wVar 2) wNil))))) (wTest (wOp pEq (wVar 2) (wC (.str []))))) wNever wNext))
theorem beq_nil {l : List Nat} (h : l ≠ []) : (l == []) = false := by cases l with
  | nil => exact absurd rfl h
  | cons _ _ => rfl
theorem v_check_round : ∀ xs post, xs.length = 3 → W_check_round xs post → w_check_round (DD post) (startS 3 xs) := by
  rintro xs post - ⟨L, s, l, rfl, v, h⟩
  refine ⟨rfl, L, .str s, true, rfl, by rw [wordB_str v.sl, v.ws], .inl rfl, ?_⟩
  refine ⟨rfl, L, .str l, true, rfl, by rw [wordB_str v.ll, v.wl], .inl rfl, ?_⟩
  exact dr_f (beq_nil v.ne) h
def W_spelled_out : WF0 := fun xs post => ∃ (s l : List Nat) (n : Nat), xs = [.str s, .str l, .int n] ∧ l ≠ [] ∧ s.length ≤ 1000 ∧ l.length ≤ 1000 ∧ n ≤ 10000 ∧ post (.sh (.str (pre s l n))) none
-- slots: 0 start, 1 loop, 2 length
def w_spelled_out : WS := (wRet (wSl (wOp pAdd (wVar 0) (wOp pMul (wVar 1) (wOp pAdd (wOp pDiv (wVar 2) (wB gLen (wCons (wVar 1) wNil))) (wC (.int 1))))) wO0 (wO1 (wVar 2))))
theorem v_spelled_out : ∀ xs post, xs.length = 3 → W_spelled_out xs post → w_spelled_out (DD post) (startS 3 xs) := by
  rintro xs post - ⟨s, l, n, rfl, hl, h1, h2, h3, h⟩
  have hp : 0 < l.length := List.length_pos_iff.mpr hl
  have hd : n / l.length ≤ n := Nat.div_le_self ..
  have hm : l.length * (n / l.length) ≤ n := Nat.mul_div_le ..
  have hlt := Nat.lt_mul_div_succ n hp
  have hm2 : l.length * (n / l.length + 1) = l.length * (n / l.length) + l.length := Nat.mul_succ ..
  refine b_div (nDiv hp (by omega)) ?_
  refine b_mul (sRep (n := n / l.length + 1) (by omega) (by omega)) ?_
  refine b_add (sAdd (by rw [rep_len]; omega)) ?_
  show post (.sh (.str (cutL (s ++ (List.replicate (n / l.length + 1) l).flatten) none (some (n : Int))))) none
  rw [cut_to, pre_of (by rw [Nat.mul_comm]; omega)]; exact h
def roundB (L s l : List Nat) : PV → Option Bool
  | .tup [x, y] => match wordB L x, wordB L y with
    | some bx, some by' => if (bx && by') = true then (match x, y with
      | .str a, .str b => if b = [] then some false else some (pre s l (max s.length a.length + l.length + b.length) == pre a b (max s.length a.length + l.length + b.length))
      | _, _ => none) else some false
    | _, _ => none
  | .tup xs => if xs.length = 2 then none else some false
  | .non => some false
  | .bl _ => some false
  | .int _ => some false
  | .str _ => some false
  | .lst _ => some false
  | _ => none
def W_is_round : WF0 := fun xs post => ∃ (L s l : List Nat) (v : PV) (b : Bool), xs = [.str L, .str s, .str l, v] ∧ Vd L s l ∧ roundB L s l v = some b ∧ post (.sh (.bl b)) none
-- slots: 0 letters, 1 start, 2 loop, 3 value, 4 length, 5 word
def w_is_round : WS := (wSeq (wDrop (wCall 1 W_check_alphabet (wCons (wVar 0) wNil))) (wSeq (wDrop (wCall 3 W_check_round (wCons (wVar 0) (wCons (wVar 1) (wCons (wVar 2) wNil))))) (wSeq (wIfS (wOrT (wNotT (wTest (wB gIsi (wCons (wVar 3) (wCons (wC (.ty "tuple")) wNil))))) (wOrT (wTest (wOp pNe (wB gLen (wCons (wVar 3) wNil)) (wC (.int 2)))) (wNotT (wTest (wB gAll (wCons (wFz (wComp (.one 5) [5] (wIter (wVar 3)) wYes (wCall 2 W_is_word (wCons (wVar 0) (wCons (wVar 5) wNil))))) wNil)))))) (wRet (wC (.bl false))) wNext) (wSeq (wIfS (wTest (wOp pEq (wOp pIx (wVar 3) (wC (.int 1))) (wC (.str [])))) (wRet (wC (.bl false))) wNext) (wSeq (wSet 4 (wOp pAdd (wOp pAdd (wB gMax (wCons (wB gLen (wCons (wVar 1) wNil)) (wCons (wB gLen (wCons (wOp pIx (wVar 3) (wC (.int 0))) wNil)) wNil))) (wB gLen (wCons (wVar 2) wNil))) (wB gLen (wCons (wOp pIx (wVar 3) (wC (.int 1))) wNil)))) (wRet (wOp pEq (wCall 3 W_spelled_out (wCons (wVar 1) (wCons (wVar 2) (wCons (wVar 4) wNil)))) (wCall 3 W_spelled_out (wCons (wOp pIx (wVar 3) (wC (.int 0))) (wCons (wOp pIx (wVar 3) (wC (.int 1))) (wCons (wVar 4) wNil)))))))))))
theorem word_nores {L : List Nat} {x : PV} {b : Bool} (h : wordB L x = some b) : hasRes [.str L, x] = false := by cases x <;> first | rfl | cases h
theorem v_is_round : ∀ xs post, xs.length = 4 → W_is_round xs post → w_is_round (DD post) (startS 6 xs) := by
  rintro xs post - ⟨L, s, l, v, b, rfl, vd, e, h⟩
  refine ⟨rfl, L, rfl, vd.hL, .inl rfl, ?_⟩
  refine ⟨rfl, L, s, l, rfl, vd, .inl rfl, ?_⟩
  cases v with
  | tup ys =>
    by_cases h2 : ys.length = 2
    · match ys, h2 with
      | [x, y], _ =>
        unfold roundB at e
        dsimp only at e
        split at e
        · rename_i bx by' ex ey
          have hw : ∀ q ∈ [(x, bx), (y, by')], wordB L q.1 = some q.2 := fun q hq => by
            rcases List.mem_cons.mp hq with rfl | hq
            · exact ex
            · rw [List.mem_singleton.mp hq]; exact ey
          refine ⟨by show 2 ≤ 100000; decide, noOwn_of rfl, ?_⟩
          refine wLC_of0 (fun q : PV × Bool => q.1) (fun q : PV × Bool => .bl q.2) [(x, bx), (y, by')] (fun q hq => ⟨_, rfl, rfl, rfl, fun p h => h, fun p h => ⟨rfl, L, q.1, q.2, rfl, hw q hq, .inl rfl, b_after (word_nores (hw q hq)) h⟩⟩) ?_
          cases bx with
          | false =>
            rw [Bool.false_and, if_neg Bool.false_ne_true] at e
            cases (Option.some.inj e)
            cases by' <;> exact h
          | true =>
            cases by' with
            | false =>
              rw [Bool.and_false, if_neg Bool.false_ne_true] at e
              cases (Option.some.inj e)
              exact h
            | true =>
              rw [Bool.and_true, if_pos rfl] at e
              split at e
              · rename_i a c _
                have ha : a.length ≤ 1000 := by
                  have : (if a.length ≤ 1000 then some (inL L a) else none) = some true := ex
                  split at this
                  · assumption
                  · cases this
                have hc : c.length ≤ 1000 := by
                  have : (if c.length ≤ 1000 then some (inL L c) else none) = some true := ey
                  split at this
                  · assumption
                  · cases this
                by_cases hz : c = []
                · rw [if_pos hz] at e
                  cases (Option.some.inj e)
                  subst hz
                  exact h
                · rw [if_neg hz] at e
                  cases (Option.some.inj e)
                  have hN : (if ((a.length : Nat) : Int) > ((s.length : Nat) : Int) then ((a.length : Nat) : Int) else ((s.length : Nat) : Int)) + ((l.length : Nat) : Int) + ((c.length : Nat) : Int) = ((max s.length a.length + l.length + c.length : Nat) : Int) := by
                    split <;> omega
                  have h1 := vd.sl
                  have h2 := vd.ll
                  refine dr_f (beq_nil hz) ⟨rfl, s, l, _, congrArg (fun q => [PV.str s, .str l, .int q]) hN, vd.ne, vd.sl, vd.ll, by omega, .inl rfl, ?_⟩
                  exact ⟨rfl, a, c, _, congrArg (fun q => [PV.str a, .str c, .int q]) hN, hz, ha, hc, by omega, .inl rfl, h⟩
              · cases e
        · cases e
    · have e : some false = some b := by
        rw [← e]
        match ys, h2 with
        | [], _ => rfl
        | [_], _ => rfl
        | [_, _], z => exact absurd rfl z
        | x :: y :: z :: r, hz => exact (show some false = (if (x :: y :: z :: r).length = 2 then none else some false) from (if_neg hz).symm)
      cases (Option.some.inj e)
      have hne : (!(((ys.length : Nat) : Int) == 2)) = true := by
        have : (((ys.length : Nat) : Int) == 2) = false := beq_false_of_ne (by omega)
        rw [this]; rfl
      exact dr_t hne h
  | non => cases (Option.some.inj e); exact h
  | bl _ => cases (Option.some.inj e); exact h
  | int _ => cases (Option.some.inj e); exact h
  | str _ => cases (Option.some.inj e); exact h
  | lst _ => cases (Option.some.inj e); exact h
  | _ => cases e
def W_least_round : WF0 := fun xs post => ∃ (L s l : List Nat), xs = [.str L, .str s, .str l] ∧ Vd L s l ∧ ∀ s0 l0, Can (inf s l) s0 l0 → s0.length ≤ s.length → l0.length ≤ l.length → inL L s0 = true → inL L l0 = true → post (.sh (.tup [.str s0, .str l0])) none
-- slots: 0 letters, 1 start, 2 loop, 3 period
def w_least_round : WS := (wSeq (wDrop (wCall 1 W_check_alphabet (wCons (wVar 0) wNil))) (wSeq (wDrop (wCall 3 W_check_round (wCons (wVar 0) (wCons (wVar 1) (wCons (wVar 2) wNil))))) (wSeq (wSet 3 (wC (.int 1))) (wSeq (wWhile (wOrT (wTest (wOp pNe (wOp pMod (wB gLen (wCons (wVar 2) wNil)) (wVar 3)) (wC (.int 0)))) (wTest (wOp pNe (wOp pMul (wSl (wVar 2) wO0 (wO1 (wVar 3))) (wOp pDiv (wB gLen (wCons (wVar 2) wNil)) (wVar 3))) (wVar 2)))) (wAug 3 pAdd (wC (.int 1)))) (wSeq (wSet 2 (wSl (wVar 2) wO0 (wO1 (wVar 3)))) (wSeq (wWhile (wAndT (wTest (wOp pNe (wVar 1) (wC (.str [])))) (wTest (wOp pEq (wOp pIx (wVar 1) (wUn pNeg (wC (.int 1)))) (wOp pIx (wVar 2) (wUn pNeg (wC (.int 1))))))) (wPar [1, 2] (wCons (wSl (wVar 1) wO0 (wO1 (wUn pNeg (wC (.int 1))))) (wCons (wOp pAdd (wOp pIx (wVar 2) (wUn pNeg (wC (.int 1)))) (wSl (wVar 2) wO0 (wO1 (wUn pNeg (wC (.int 1)))))) wNil)))) (wRet (wTup (wCons (wVar 1) (wCons (wVar 2) wNil))))))))))
theorem nbF {b : Bool} (h : (!b) = false) : b = true := by cases b <;> first | rfl | cases h
theorem nbT {b : Bool} (h : (!b) = true) : b = false := by cases b <;> first | rfl | cases h
theorem inL_sub {L a b : List Nat} (h : inL L b = true) (k : ∀ c ∈ a, c ∈ b) : inL L a = true := List.all_eq_true.mpr fun c hc => List.all_eq_true.mp h c (k c hc)
theorem last_split {a : List Nat} (h : a ≠ []) : ∃ b x, a = b ++ [x] := ⟨a.dropLast, a.getLast h, (List.dropLast_concat_getLast h).symm⟩
theorem v_least_round : ∀ xs post, xs.length = 3 → W_least_round xs post → w_least_round (DD post) (startS 4 xs) := by
  rintro xs post - ⟨L, s, l, rfl, vd, h⟩
  have hn : 0 < l.length := List.length_pos_iff.mpr vd.ne
  have hll := vd.ll
  have hsl := vd.sl
  refine ⟨rfl, L, rfl, vd.hL, .inl rfl, ?_⟩
  refine ⟨rfl, L, s, l, rfl, vd, .inl rfl, ?_⟩
  refine ⟨fun m ρ => ∃ p : Nat, 0 < p ∧ p ≤ l.length ∧ m = l.length - p ∧ (∀ q, 0 < q → q < p → ¬ Good l q) ∧ ρ = [.sh (.str L), .sh (.str s), .sh (.str l), .sh (.int p)], ⟨l.length - 1, 1, by omega, by omega, rfl, fun q h1 h2 => by omega, rfl⟩, ?_⟩
  rintro m ρ ⟨p, p0, p1, rfl, hmin, rfl⟩
  have step : ¬ Good l p → ∃ m', m' < l.length - p ∧ ∃ q : Nat, 0 < q ∧ q ≤ l.length ∧ m' = l.length - q ∧ (∀ r, 0 < r → r < q → ¬ Good l r) ∧ [Sl.sh (.str L), .sh (.str s), .sh (.str l), .sh (.int ((p + 1 : Nat) : Int))] = [.sh (.str L), .sh (.str s), .sh (.str l), .sh (.int q)] := fun hg => by
    have hlt : p < l.length := by
      rcases Nat.lt_or_ge p l.length with z | z
      · exact z
      · have : p = l.length := by omega
        subst this
        exact absurd (Good.full vd.ne) hg
    refine ⟨l.length - (p + 1), by omega, p + 1, by omega, by omega, rfl, fun r h1 h2 => ?_, rfl⟩
    rcases Nat.lt_or_ge r p with z | z
    · exact hmin r h1 z
    · have : r = p := by omega
      rw [this]; exact hg
  refine b_mod (nMod p0) ?_
  refine dr_if (fun e1 => ?_) (fun e1 => ?_)
  · exact step fun hg => by
      have e1 : (!(((l.length % p : Nat) : Int) == 0)) = true := e1
      rw [hg.1] at e1
      cases e1
  · have e1 : (!(((l.length % p : Nat) : Int) == 0)) = false := e1
    have e1 : l.length % p = 0 := by
      have := eq_of_beq (nbF e1)
      omega
    refine b_div (nDiv p0 (by omega)) ?_
    have ht : (l.take p).length = p := by rw [List.length_take]; omega
    have hpd : p * (l.length / p) = l.length := by have := Nat.div_add_mod l.length p; omega
    have hdl : l.length / p ≤ l.length := Nat.div_le_self ..
    refine b_mul (z := .str (List.replicate (l.length / p) (l.take p)).flatten) (by rw [cut_to]; exact sRep (by rw [ht, hpd]; omega) (by omega)) ?_
    refine dr_if (fun e2 => ?_) (fun e2 => ?_)
    · exact step fun hg => by
        have e2 : (!((List.replicate (l.length / p) (l.take p)).flatten == l)) = true := e2
        rw [hg.2, beq_self_eq_true] at e2
        cases e2
    · have e2 : (!((List.replicate (l.length / p) (l.take p)).flatten == l)) = false := e2
      have hg : Good l p := ⟨e1, eq_of_beq (nbF e2)⟩
      refine ⟨fun m ρ => ∃ s1 l1 : List Nat, m = s1.length ∧ (∀ i, inf s1 l1 i = inf s l i) ∧ l1.length = p ∧ s1.length ≤ s.length ∧ inL L s1 = true ∧ inL L l1 = true ∧ ρ = [.sh (.str L), .sh (.str s1), .sh (.str l1), .sh (.int p)],
        ⟨s.length, s, l.take p, rfl, hg.inf p0 vd.ne s, ht, Nat.le_refl _, vd.ws, inL_sub vd.wl fun c hc => List.mem_of_mem_take hc, by rw [← cut_to]; rfl⟩, ?_⟩
      rintro m ρ ⟨s1, l1, rfl, hi, hp1, hs1, w1, w2, rfl⟩
      have hl1 : l1 ≠ [] := by intro z; rw [z] at hp1; simp at hp1; omega
      have prim : ∀ b r, 0 < r → r ∣ l1.length → Per (inf s l) b r → r = l1.length := by
        rw [hp1, ← ht]; exact hg.prim p0 vd.ne hmin
      have fin : s1 = [] ∨ s1.getLast? ≠ l1.getLast? → post (.sh (.tup [.str s1, .str l1])) none := fun hlast =>
        h s1 l1 ⟨hi, hl1, prim, hlast⟩ hs1 (by omega) w1 w2
      obtain ⟨l2, y, rfl⟩ := last_split hl1
      by_cases hs : s1 = []
      · subst hs
        exact ⟨by show 2 ≤ 100000; decide, fin (.inl rfl)⟩
      · refine dr_t (by show (!(s1 == [])) = true; rw [beq_nil hs]; rfl) ?_
        obtain ⟨s2, x, rfl⟩ := last_split hs
        refine b_ix (sLast (c := x) (by simp)) ?_
        refine b_ix (sLast (c := y) (by simp)) ?_
        refine dr_if (fun e3 => ?_) (fun e3 => ?_)
        · have e3 : ([x] == [y]) = true := e3
          have hxy : x = y := by have := eq_of_beq e3; simpa using this
          subst hxy
          refine b_ix (sLast (c := x) (by simp)) ?_
          have ec : ∀ q : List Nat, cutL (q ++ [x]) none (some (-1)) = q := fun q => by rw [cut_init]; simp
          rw [List.length_append, List.length_singleton] at hp1 hs1
          refine b_add (z := .str (x :: l2)) (by rw [ec]; exact sAdd (by simp only [List.length_singleton]; omega)) ?_
          refine ⟨s2.length, by simp, s2, x :: l2, rfl, fun i => (turn_inf s2 l2 x i).trans (hi i), by rw [List.length_cons]; exact hp1, by omega, inL_sub w1 fun c hc => List.mem_append_left _ hc, inL_sub w2 fun c hc => ?_, ?_⟩
          · rcases List.mem_cons.mp hc with rfl | hc
            · exact List.mem_append_right _ (List.mem_singleton_self _)
            · exact List.mem_append_left _ hc
          · show [Sl.sh (PV.str L), .sh (.str (cutL (s2 ++ [x]) none (some (-1)))), _, _] = _
            rw [ec]
        · have e3 : ([x] == [y]) = false := e3
          refine ⟨by show 2 ≤ 100000; decide, fin (.inr fun z => ?_)⟩
          have : x = y := by simpa using z
          subst this
          simp at e3
def W__law_feed : WF0 := fun xs post => ∃ ns : List PV, xs = [.lst ns] ∧ post (.own (.lst [.lst ns, .int 0, .int 0])) none
-- slots: 0 script
def w__law_feed : WS := (wRetF (wLst (wCons (wFz (wBF gList (wCons (wVar 0) wNil))) (wCons (wC (.int 0)) (wCons (wC (.int 0)) wNil)))))
theorem v__law_feed : ∀ xs post, xs.length = 1 → W__law_feed xs post → w__law_feed (DD post) (startS 1 xs) := by
  rintro xs post - ⟨ns, rfl, h⟩
  exact ⟨by show 3 ≤ 100000; decide, h⟩
abbrev W__law_drawn : WF0 := Wd 2
def W__law_letters : WF0 := fun xs post => ∃ n : Nat, xs = [.res 2 (n + 4)] ∧ ∀ L, Lt L → post (.sh (.str L)) (some n)
-- slots: 0 feed, 1 first, 2 second, 3 third, 4 some, 5 many
def w__law_letters : WS := (wSeq (wSet 1 (wCall 2 W__law_drawn (wCons (wVar 0) (wCons (wC (.int 24)) wNil)))) (wSeq (wSet 2 (wOp pAdd (wOp pAdd (wVar 1) (wC (.int 1))) (wCall 2 W__law_drawn (wCons (wVar 0) (wCons (wOp pSub (wC (.int 24)) (wVar 1)) wNil))))) (wSeq (wSet 3 (wOp pAdd (wOp pAdd (wVar 2) (wC (.int 1))) (wCall 2 W__law_drawn (wCons (wVar 0) (wCons (wOp pSub (wC (.int 25)) (wVar 2)) wNil))))) (wSeq (wSet 4 (wC (.str [97, 98, 99, 100, 101, 102, 103, 104, 105, 106, 107, 108, 109, 110, 111, 112, 113, 114, 115, 116, 117, 118, 119, 120, 121, 122]))) (wSeq (wSet 5 (wOp pIx (wFz (wLst (wCons (wC (.int 2)) (wCons (wC (.int 2)) (wCons (wC (.int 3)) (wCons (wC (.int 1)) wNil)))))) (wCall 2 W__law_drawn (wCons (wVar 0) (wCons (wC (.int 4)) wNil))))) (wRet (wSl (wOp pAdd (wOp pAdd (wOp pIx (wVar 4) (wVar 1)) (wOp pIx (wVar 4) (wVar 2))) (wOp pIx (wVar 4) (wVar 3))) wO0 (wO1 (wVar 5)))))))))
theorem toN {v : Int} (h : 0 ≤ v) : ∃ n : Nat, v = n := ⟨v.toNat, by omega⟩
theorem abc_at : ∀ i : Nat, i < 26 → abc[i]? = some (97 + i) := by decide
theorem abc_mem (i : Nat) (h : i < 26) : 97 + i ∈ abc := List.mem_of_getElem? (abc_at i h)
theorem ltL1 {a b : Nat} (h : a < b) : ltL [a] [b] = true := by
  unfold ltL
  exact decide_eq_true (List.Lex.rel h)
theorem lt_make {f s t m : Nat} (h1 : f < s) (h2 : s < t) (h3 : t < 26) (hm : m = 1 ∨ m = 2 ∨ m = 3) : Lt ([97 + f, 97 + s, 97 + t].take m) := by
  have ha : ∀ c ∈ [97 + f, 97 + s, 97 + t], c ∈ abc := fun c hc => by
    simp only [List.mem_cons, List.not_mem_nil, or_false] at hc
    rcases hc with rfl | rfl | rfl
    · exact abc_mem f (by omega)
    · exact abc_mem s (by omega)
    · exact abc_mem t h3
  refine ⟨?_, ?_, fun c hc => ha c (List.mem_of_mem_take hc), ?_⟩
  · rcases hm with rfl | rfl | rfl <;> simp
  · rcases hm with rfl | rfl | rfl <;> simp
  · rcases hm with rfl | rfl | rfl
    · rfl
    · show ([(97 + f, 97 + s)].all fun q => ltL [q.1] [q.2]) = true
      rw [List.all_cons, ltL1 (by omega)]; rfl
    · show ([(97 + f, 97 + s), (97 + s, 97 + t)].all fun q => ltL [q.1] [q.2]) = true
      rw [List.all_cons, List.all_cons, ltL1 (by omega), ltL1 (by omega)]; rfl
theorem v__law_letters : ∀ xs post, xs.length = 1 → W__law_letters xs post → w__law_letters (DD post) (startS 6 xs) := by
  rintro xs post - ⟨n, rfl, h⟩
  refine ⟨rfl, n + 3, 24, rfl, by decide, by decide, fun v v0 v1 => ⟨.inr (.inr ⟨rfl, rfl⟩), ?_⟩⟩
  obtain ⟨f, rfl⟩ := toN v0
  refine ⟨rfl, n + 2, 24 - f, rfl, by omega, by omega, fun v v0 v1 => ⟨.inr (.inr ⟨rfl, rfl⟩), ?_⟩⟩
  obtain ⟨d, rfl⟩ := toN v0
  refine ⟨rfl, n + 1, 25 - ((f : Int) + 1 + d), rfl, by omega, by omega, fun v v0 v1 => ⟨.inr (.inr ⟨rfl, rfl⟩), ?_⟩⟩
  obtain ⟨e, rfl⟩ := toN v0
  refine ⟨by show 4 ≤ 100000; decide, rfl, n, 4, rfl, by decide, by decide, fun v v0 v1 => ⟨.inr (.inr ⟨rfl, rfl⟩), ?_⟩⟩
  have hm : ∃ m : Nat, (m = 1 ∨ m = 2 ∨ m = 3) ∧ pIx (.lst [.int 2, .int 2, .int 3, .int 1]) (.int v) = some (.int m) := by
    have : v = 0 ∨ v = 1 ∨ v = 2 ∨ v = 3 := by omega
    rcases this with rfl | rfl | rfl | rfl
    · exact ⟨2, by omega, rfl⟩
    · exact ⟨2, by omega, rfl⟩
    · exact ⟨3, by omega, rfl⟩
    · exact ⟨1, by omega, rfl⟩
  obtain ⟨m, hm, em⟩ := hm
  refine b_ix em ?_
  refine b_ix (sIx (n := f) (abc_at f (by omega))) ?_
  refine b_ix (sIx (n := f + 1 + d) (abc_at _ (by omega))) ?_
  refine b_ix (sIx (n := f + 1 + d + 1 + e) (abc_at _ (by omega))) ?_
  have := h _ (lt_make (f := f) (s := f + 1 + d) (t := f + 1 + d + 1 + e) (by omega) (by omega) (by omega) hm)
  rw [← cut_to] at this
  exact this
/-- a word of at most k letters; every draw is paid for -/
def W__law_word : WF0 := fun xs post => ∃ (n k : Nat) (L : List Nat), xs = [.res 2 (n + k + 1), .str L, .int k] ∧ Lt L ∧ k ≤ 100 ∧ ∀ w, inL L w = true → w.length ≤ k → post (.sh (.str w)) (some n)
-- slots: 0 feed, 1 letters, 2 longest, 3 size, 4 at
def w__law_word : WS := (wSeq (wSet 3 (wCall 2 W__law_drawn (wCons (wVar 0) (wCons (wOp pAdd (wVar 2) (wC (.int 1))) wNil)))) (wRet (wJoin (wC (.str [])) (wFz (wComp (.one 4) [4] (wRng1 (wCons (wVar 3) wNil)) wYes (wOp pIx (wVar 1) (wCall 2 W__law_drawn (wCons (wVar 0) (wCons (wB gLen (wCons (wVar 1) wNil)) wNil)))))))))
theorem joinL_one : ∀ w : List Nat, joinL [] (w.map fun c => [c]) = w
  | [] => rfl
  | [c] => rfl
  | c :: d :: w => by
    show [c] ++ [] ++ joinL [] ((d :: w).map fun c => [c]) = _
    rw [joinL_one (d :: w)]; rfl
theorem gJoin_one {w : List Nat} (h : w.length ≤ 1000) : gJoin (.str []) (.lst (w.map fun c => PV.str [c])) = some (.str w) := by
  show (strL (w.map fun c => PV.str [c])).bind _ = _
  rw [NL.strs_map]
  show (if ((w.map fun c => [c]).map (·.length)).sum + (w.map fun c => [c]).length * 0 ≤ 100000 then some (PV.str (joinL [] (w.map fun c => [c]))) else none) = _
  have e : ((w.map fun c => [c]).map (·.length)).sum = w.length := by
    rw [List.map_map]
    show (w.map fun _ => 1).sum = _
    rw [List.map_const', List.sum_replicate_nat]; omega
  rw [e, if_pos (by omega), joinL_one]
abbrev wWordE : WE := (wOp pIx (wVar 1) (wCall 2 W__law_drawn (wCons (wVar 0) (wCons (wB gLen (wCons (wVar 1) wNil)) wNil))))
theorem word_loop {L : List Nat} (hL : Lt L) {k sz : PV} (post : List PV → Sls → Prop) : ∀ (items : List PV) (acc : List PV) (n : Nat),
    (∀ w : List Nat, inL L w = true → w.length = items.length → post (acc ++ w.map fun c => .str [c]) [.res 2 n, .sh (.str L), .sh k, .sh sz, .un]) →
    wLC (.one 4) [4] wYes wWordE post items acc [.res 2 (n + items.length), .sh (.str L), .sh k, .sh sz, .un]
  | [], acc, n, h => by
    have := h [] rfl rfl
    rw [List.map_nil, List.append_nil] at this
    exact this
  | x :: items, acc, n, h => by
    have h1 := hL.1
    have h2 := hL.2.1
    refine ⟨rfl, rfl, n + items.length, L.length, rfl, by omega, by omega, fun v v0 v1 => ⟨.inr (.inr ⟨rfl, rfl⟩), ?_⟩⟩
    obtain ⟨i, rfl⟩ := toN v0
    have hi : i < L.length := by omega
    refine b_ix (sIx (n := i) (List.getElem?_eq_getElem hi)) ⟨rfl, ?_⟩
    refine word_loop hL post items (acc ++ [.str [L[i]]]) n fun w hw hl => ?_
    have := h (L[i] :: w) (by
      show (decide (L[i] ∈ L) && inL L w) = true
      rw [decide_eq_true (List.getElem_mem hi), hw]; rfl) (by rw [List.length_cons, List.length_cons, hl])
    rw [List.map_cons] at this
    rw [List.append_assoc]; exact this
theorem v__law_word : ∀ xs post, xs.length = 3 → W__law_word xs post → w__law_word { nx := fun _ => False, rt := fun r ρ => ∃ m, leO m (resN ρ) ∧ post r m } (startS 5 xs) := by
  rintro xs post - ⟨n, k, L, rfl, hL, hk, h⟩
  refine ⟨rfl, n + k, k + 1, rfl, by omega, by omega, fun v v0 v1 => ⟨.inr (.inr ⟨rfl, rfl⟩), ?_⟩⟩
  obtain ⟨sz, rfl⟩ := toN v0
  have hsz : sz ≤ k := by omega
  refine ⟨⟨[], rfl⟩, ⟨by omega, by omega⟩, ?_⟩
  have hlen : (rng 0 (sz : Int)).length = sz := by simp [rng]
  refine ⟨by rw [hlen]; omega, noOwn_of rfl, ?_⟩
  have hn : n + k = (n + (k - sz)) + (rng 0 (sz : Int)).length := by rw [hlen]; omega
  show wLC (.one 4) [4] wYes wWordE _ (rng 0 (sz : Int)) [] [.res 2 (n + k), .sh (.str L), .sh (.int k), .sh (.int sz), .un]
  rw [hn]
  refine word_loop hL _ _ _ _ fun w hw hl => ?_
  rw [hlen] at hl
  rw [List.nil_append]
  refine b_join (gJoin_one (by omega)) ?_
  exact ⟨some n, by show n ≤ n + (k - sz); omega, h w hw (by omega)⟩
def W__law_same0 : WF0 := fun xs post => (∃ a b : List Nat, xs = [.str a, .str b] ∧ post (.sh (.bl (a == b))) none) ∨ (∃ a b : Bool, xs = [.bl a, .bl b] ∧ post (.sh (.bl (a == b))) none)
-- slots: 0 found, 1 due, 2 at
def w__law_same0 : WS := (wSeq (wIfS (wTest (wB gIsi (wCons (wVar 1) (wCons (wC (.ty "tuple")) wNil)))) wNever wNext) (wSeq (wIfS (wTest (wOp pIs (wVar 1) (wC .non))) (wRet (wOp pIs (wVar 0) (wC .non))) wNext) (wSeq (wIfS (wTest (wB gIsi (wCons (wVar 1) (wCons (wC (.ty "bool")) wNil)))) (wRet (wAnd (wB gIsi (wCons (wVar 0) (wCons (wC (.ty "bool")) wNil))) (wOp pEq (wVar 0) (wVar 1)))) wNext) (wSeq (wIfS (wTest (wB gIsi (wCons (wVar 1) (wCons (wC (.ty "int")) wNil)))) (wRet (wAnd (wB gIsi (wCons (wVar 0) (wCons (wC (.ty "int")) wNil))) (wAnd (wNot (wB gIsi (wCons (wVar 0) (wCons (wC (.ty "bool")) wNil)))) (wOp pEq (wVar 0) (wVar 1))))) wNext) (wRet (wAnd (wB gIsi (wCons (wVar 0) (wCons (wC (.ty "str")) wNil))) (wOp pEq (wVar 0) (wVar 1))))))))
theorem v__law_same0 : ∀ xs post, xs.length = 2 → W__law_same0 xs post → w__law_same0 (DD post) (startS 3 xs) := by
  rintro xs post - (⟨a, b, rfl, h⟩ | ⟨a, b, rfl, h⟩)
  · exact h
  · exact h
def W__law_same : WF0 := fun xs post => W__law_same0 xs post ∨ ∃ a b c d : List Nat, xs = [.tup [.str a, .str b], .tup [.str c, .str d]] ∧ post (.sh (.bl ((a == c) && (b == d)))) none
-- slots: 0 found, 1 due, 2 at
def w__law_same : WS := (wSeq (wIfS (wTest (wB gIsi (wCons (wVar 1) (wCons (wC (.ty "tuple")) wNil)))) (wSeq (wIfS (wOrT (wNotT (wTest (wB gIsi (wCons (wVar 0) (wCons (wC (.ty "tuple")) wNil))))) (wTest (wOp pNe (wB gLen (wCons (wVar 0) wNil)) (wB gLen (wCons (wVar 1) wNil))))) (wRet (wC (.bl false))) wNext) (wRet (wB gAll (wCons (wFz (wComp (.one 2) [2] (wRng1 (wCons (wB gLen (wCons (wVar 1) wNil)) wNil)) wYes (wCall 2 W__law_same0 (wCons (wOp pIx (wVar 0) (wVar 2)) (wCons (wOp pIx (wVar 1) (wVar 2)) wNil))))) wNil)))) wNext) (wSeq (wIfS (wTest (wOp pIs (wVar 1) (wC .non))) (wRet (wOp pIs (wVar 0) (wC .non))) wNext) (wSeq (wIfS (wTest (wB gIsi (wCons (wVar 1) (wCons (wC (.ty "bool")) wNil)))) (wRet (wAnd (wB gIsi (wCons (wVar 0) (wCons (wC (.ty "bool")) wNil))) (wOp pEq (wVar 0) (wVar 1)))) wNext) (wSeq (wIfS (wTest (wB gIsi (wCons (wVar 1) (wCons (wC (.ty "int")) wNil)))) (wRet (wAnd (wB gIsi (wCons (wVar 0) (wCons (wC (.ty "int")) wNil))) (wAnd (wNot (wB gIsi (wCons (wVar 0) (wCons (wC (.ty "bool")) wNil)))) (wOp pEq (wVar 0) (wVar 1))))) wNext) (wRet (wAnd (wB gIsi (wCons (wVar 0) (wCons (wC (.ty "str")) wNil))) (wOp pEq (wVar 0) (wVar 1))))))))
theorem v__law_same : ∀ xs post, xs.length = 2 → W__law_same xs post → w__law_same (DD post) (startS 3 xs) := by
  rintro xs post - ((⟨a, b, rfl, h⟩ | ⟨a, b, rfl, h⟩) | ⟨a, b, c, d, rfl, h⟩)
  · exact h
  · exact h
  · refine ⟨⟨by show -(2 ^ 62) ≤ ((2 : Nat) : Int); decide, by show ((2 : Nat) : Int) < 2 ^ 62; decide⟩, by show 2 ≤ 100000; decide, noOwn_of rfl, ?_⟩
    refine ⟨rfl, rfl, .inl ⟨a, c, rfl, .inl rfl, rfl, ?_⟩⟩
    refine ⟨rfl, rfl, .inl ⟨b, d, rfl, .inl rfl, rfl, ?_⟩⟩
    have e : ((a == c) && ((b == d) && true)) = ((a == c) && (b == d)) := by rw [Bool.and_true]
    show post (.sh (.bl ((a == c) && ((b == d) && true)))) none
    rw [e]; exact h
def W__law_end : WF0 := fun xs post => ∃ (s l : List Nat) (n : Nat), xs = [.str s, .str l, .int n] ∧ l ≠ [] ∧ s.length ≤ 1000 ∧ l.length ≤ 1000 ∧ n ≤ 10000 ∧ post (.sh (.str (pre s l n))) none
-- slots: 0 start, 1 loop, 2 length, 3 word
def w__law_end : WS := (wSeq (wSet 3 (wVar 0)) (wSeq (wWhile (wTest (wOp pLt (wB gLen (wCons (wVar 3) wNil)) (wVar 2))) (wSet 3 (wOp pAdd (wVar 3) (wVar 1)))) (wRet (wSl (wVar 3) wO0 (wO1 (wVar 2))))))
theorem v__law_end : ∀ xs post, xs.length = 3 → W__law_end xs post → w__law_end (DD post) (startS 4 xs) := by
  rintro xs post - ⟨s, l, n, rfl, hl, h1, h2, h3, h⟩
  have hp : 0 < l.length := List.length_pos_iff.mpr hl
  refine ⟨fun m ρ => ∃ k : Nat, m = n - (s.length + k * l.length) ∧ s.length + k * l.length ≤ 20000 ∧ ρ = [.sh (.str s), .sh (.str l), .sh (.int n), .sh (.str (s ++ (List.replicate k l).flatten))], ⟨n - (s.length + 0 * l.length), 0, rfl, by omega, by simp; rfl⟩, ?_⟩
  rintro m ρ ⟨k, rfl, hk, rfl⟩
  have hlen : (s ++ (List.replicate k l).flatten).length = s.length + k * l.length := by rw [List.length_append, flat_len]
  refine dr_if (fun e => ?_) (fun e => ?_)
  · have e : decide ((((s ++ (List.replicate k l).flatten).length : Nat) : Int) < (n : Int)) = true := e
    rw [hlen] at e
    have e := of_decide_eq_true e
    refine b_add (sAdd (by rw [hlen]; omega)) ?_
    have hs : (k + 1) * l.length = k * l.length + l.length := Nat.succ_mul ..
    refine ⟨n - (s.length + (k + 1) * l.length), by omega, k + 1, rfl, by omega, ?_⟩
    show [_, _, _, Sl.sh (.str (s ++ (List.replicate k l).flatten ++ l))] = _
    rw [List.append_assoc, List.replicate_succ', List.flatten_append]
    simp
  · have e : decide ((((s ++ (List.replicate k l).flatten).length : Nat) : Int) < (n : Int)) = false := e
    rw [hlen] at e
    have e := of_decide_eq_false e
    show post (.sh (.str (cutL (s ++ (List.replicate k l).flatten) none (some (n : Int))))) none
    rw [cut_to, pre_of (by omega)]; exact h
def W__law_alike : WF0 := fun xs post => ∃ (s l a b : List Nat), xs = [.str s, .str l, .tup [.str a, .str b]] ∧ l ≠ [] ∧ b ≠ [] ∧ s.length ≤ 1000 ∧ l.length ≤ 1000 ∧ a.length ≤ 1000 ∧ b.length ≤ 1000 ∧
  post (.sh (.bl (pre s l (s.length + l.length + a.length + b.length) == pre a b (s.length + l.length + a.length + b.length)))) none
-- slots: 0 start, 1 loop, 2 value, 3 length
def w__law_alike : WS := (wSeq (wSet 3 (wOp pAdd (wOp pAdd (wOp pAdd (wB gLen (wCons (wVar 0) wNil)) (wB gLen (wCons (wVar 1) wNil))) (wB gLen (wCons (wOp pIx (wVar 2) (wC (.int 0))) wNil))) (wB gLen (wCons (wOp pIx (wVar 2) (wC (.int 1))) wNil)))) (wRet (wOp pEq (wCall 3 W__law_end (wCons (wVar 0) (wCons (wVar 1) (wCons (wVar 3) wNil)))) (wCall 3 W__law_end (wCons (wOp pIx (wVar 2) (wC (.int 0))) (wCons (wOp pIx (wVar 2) (wC (.int 1))) (wCons (wVar 3) wNil)))))))
theorem v__law_alike : ∀ xs post, xs.length = 3 → W__law_alike xs post → w__law_alike (DD post) (startS 4 xs) := by
  rintro xs post - ⟨s, l, a, b, rfl, hl, hb, h1, h2, h3, h4, h⟩
  refine ⟨rfl, s, l, s.length + l.length + a.length + b.length, rfl, hl, h1, h2, by omega, .inl rfl, ?_⟩
  exact ⟨rfl, a, b, s.length + l.length + a.length + b.length, rfl, hb, h3, h4, by omega, .inl rfl, h⟩
end T73

namespace T73
open PySem PySem.Spec PyProof.Rows L2 NL
def W__law_is_least : WF0 := fun xs post => ∃ (s l a b : List Nat), xs = [.str s, .str l, .tup [.str a, .str b]] ∧ l ≠ [] ∧ Can (inf s l) a b ∧ s.length ≤ 100 ∧ l.length ≤ 100 ∧ a.length ≤ s.length ∧ b.length ≤ l.length ∧ post (.sh (.bl true)) none
-- slots: 0 start, 1 loop, 2 least, 3 far, 4 word, 5 period, 6 begin
def w__law_is_least : WS := (wSeq (wIfS (wNotT (wTest (wCall 3 W__law_alike (wCons (wVar 0) (wCons (wVar 1) (wCons (wVar 2) wNil)))))) (wRet (wC (.bl false))) wNext) (wSeq (wSet 3 (wOp pAdd (wB gLen (wCons (wVar 0) wNil)) (wOp pMul (wC (.int 3)) (wB gLen (wCons (wVar 1) wNil))))) (wSeq (wSet 4 (wCall 3 W__law_end (wCons (wVar 0) (wCons (wVar 1) (wCons (wOp pAdd (wVar 3) (wOp pMul (wC (.int 2)) (wB gLen (wCons (wVar 1) wNil)))) wNil))))) (wSeq (wFor (wRng2 (wCons (wC (.int 1)) (wCons (wOp pAdd (wB gLen (wCons (wOp pIx (wVar 2) (wC (.int 1))) wNil)) (wC (.int 1))) wNil))) (wName 5) (wFor (wRng1 (wCons (wOp pAdd (wB gLen (wCons (wVar 0) wNil)) (wC (.int 1))) wNil)) (wName 6) (wSeq (wIfS (wAndT (wTest (wOp pEq (wVar 5) (wB gLen (wCons (wOp pIx (wVar 2) (wC (.int 1))) wNil)))) (wTest (wOp pGeI (wVar 6) (wB gLen (wCons (wOp pIx (wVar 2) (wC (.int 0))) wNil))))) (fun D ρ => D.ct ρ) wNext) (wIfS (wTest (wCall 3 W__law_alike (wCons (wVar 0) (wCons (wVar 1) (wCons (wTup (wCons (wSl (wVar 4) wO0 (wO1 (wVar 6))) (wCons (wSl (wVar 4) (wO1 (wVar 6)) (wO1 (wOp pAdd (wVar 6) (wVar 5)))) wNil))) wNil))))) (wRet (wC (.bl false))) wNext)))) (wRet (wC (.bl true)))))))
theorem far_eq {s l a b : List Nat} (hl : l ≠ []) (hb : b ≠ []) : (pre s l (s.length + l.length + a.length + b.length) == pre a b (s.length + l.length + a.length + b.length)) = true ↔ ∀ i, inf s l i = inf a b i := by
  rw [beq_iff_eq]
  exact inf_far hl hb (by omega)
theorem pre_len (s l : List Nat) (n : Nat) : (pre s l n).length = n := by simp [pre]
theorem v__law_is_least : ∀ xs post, xs.length = 3 → W__law_is_least xs post → w__law_is_least (DD post) (startS 7 xs) := by
  rintro xs post - ⟨s, l, a, b, rfl, hl, can, h1, h2, h3, h4, h⟩
  have hlp : 0 < l.length := List.length_pos_iff.mpr hl
  have hbp : 0 < b.length := List.length_pos_iff.mpr can.ne
  refine ⟨rfl, s, l, a, b, rfl, hl, can.ne, by omega, by omega, by omega, by omega, .inl rfl, ?_⟩
  refine dr_f (by rw [(far_eq hl can.ne).mpr fun i => (can.eq i).symm]; rfl) ?_
  refine ⟨rfl, s, l, s.length + 3 * l.length + 2 * l.length, rfl, hl, by omega, by omega, by omega, .inl rfl, ?_⟩
  refine ⟨⟨by decide, by decide⟩, ⟨by omega, by omega⟩, ?_⟩
  have hr1 : rng 1 ((b.length : Int) + 1) = (List.range b.length).map fun (i : Nat) => PV.int ((1 + i : Nat) : Int) := by
    unfold rng
    rw [show ((b.length : Int) + 1 - 1).toNat = b.length by omega]
    exact List.map_congr_left fun i _ => by rw [Int.natCast_add]; rfl
  have hr2 : rng 0 ((s.length : Int) + 1) = (List.range (s.length + 1)).map fun (i : Nat) => PV.int (i : Int) := by
    unfold rng
    rw [show ((s.length : Int) + 1 - 0).toNat = s.length + 1 by omega]
    exact List.map_congr_left fun i _ => by rw [Int.zero_add]
  rw [hr1]
  have base : ∀ (x5 x6 : Sl), resN [x5, x6] = none → (wRet (wC (PV.bl true))) (DD post) [.sh (.str s), .sh (.str l), .sh (.tup [.str a, .str b]), .sh (.int (s.length + 3 * l.length : Nat)), .sh (.str (pre s l (s.length + 3 * l.length + 2 * l.length))), x5, x6] := fun x5 x6 e => by
    show post _ (resN [x5, x6])
    rw [e]; exact h
  refine wLoop_map (fun (i : Nat) => PV.int ((1 + i : Nat) : Int)) (fun ps ρ => (∀ p ∈ ps, p < b.length) ∧ ∃ x5 x6, resN [x5, x6] = none ∧ ρ = [.sh (.str s), .sh (.str l), .sh (.tup [.str a, .str b]), .sh (.int (s.length + 3 * l.length : Nat)), .sh (.str (pre s l (s.length + 3 * l.length + 2 * l.length))), x5, x6]) ?_ ?_ _ _ ⟨fun p hp => List.mem_range.mp hp, _, _, rfl, rfl⟩
  · rintro ρ ⟨_, x5, x6, e, rfl⟩
    exact base x5 x6 e
  · rintro p ps ih ρ ⟨hp, x5, x6, e, rfl⟩
    have hpl : p < b.length := hp p (List.mem_cons_self ..)
    have e6 : resN [x6] = none := by
      cases x5 with
      | res k n => cases e
      | _ => exact e
    refine ⟨⟨by omega, by omega⟩, ?_⟩
    rw [hr2]
    refine wLoop_map (fun (i : Nat) => PV.int (i : Int)) (fun qs ρ => (∀ q ∈ qs, q < s.length + 1) ∧ ∃ x6, resN [x6] = none ∧ ρ = [.sh (.str s), .sh (.str l), .sh (.tup [.str a, .str b]), .sh (.int (s.length + 3 * l.length : Nat)), .sh (.str (pre s l (s.length + 3 * l.length + 2 * l.length))), .sh (.int ((1 + p : Nat) : Int)), x6]) ?_ ?_ _ _ ⟨fun q hq => List.mem_range.mp hq, _, e6, rfl⟩
    · rintro ρ ⟨_, x6, e6, rfl⟩
      exact ih _ ⟨fun q hq => hp q (List.mem_cons_of_mem _ hq), _, _, e6, rfl⟩
    · rintro q qs ih2 ρ ⟨hq, x6, e6, rfl⟩
      have hql : q < s.length + 1 := hq q (List.mem_cons_self ..)
      have next := ih2 [.sh (.str s), .sh (.str l), .sh (.tup [.str a, .str b]), .sh (.int (s.length + 3 * l.length : Nat)), .sh (.str (pre s l (s.length + 3 * l.length + 2 * l.length))), .sh (.int ((1 + p : Nat) : Int)), .sh (.int q)] ⟨fun r hr => hq r (List.mem_cons_of_mem _ hr), _, rfl, rfl⟩
      have hu : ((pre s l (s.length + 3 * l.length + 2 * l.length)).take q).length = q := by rw [List.length_take, pre_len]; omega
      have hv : (((pre s l (s.length + 3 * l.length + 2 * l.length)).take (q + (1 + p))).drop q).length = 1 + p := by rw [List.length_drop, List.length_take, pre_len]; omega
      have hvn : ((pre s l (s.length + 3 * l.length + 2 * l.length)).take (q + (1 + p))).drop q ≠ [] := by intro z; rw [z, List.length_nil] at hv; omega
      have main : ¬ (1 + p = b.length ∧ a.length ≤ q) → (pre s l (s.length + l.length + ((pre s l (s.length + 3 * l.length + 2 * l.length)).take q).length + (((pre s l (s.length + 3 * l.length + 2 * l.length)).take (q + (1 + p))).drop q).length) == pre ((pre s l (s.length + 3 * l.length + 2 * l.length)).take q) (((pre s l (s.length + 3 * l.length + 2 * l.length)).take (q + (1 + p))).drop q) (s.length + l.length + ((pre s l (s.length + 3 * l.length + 2 * l.length)).take q).length + (((pre s l (s.length + 3 * l.length + 2 * l.length)).take (q + (1 + p))).drop q).length)) = false := fun hno => by
        rw [Bool.eq_false_iff]
        intro z
        have z := (far_eq hl hvn).mp z
        have hper : Per (inf s l) q (1 + p) := fun i hi => by
          rw [z, z]
          have := inf_per (s := (pre s l (s.length + 3 * l.length + 2 * l.length)).take q) (l := ((pre s l (s.length + 3 * l.length + 2 * l.length)).take (q + (1 + p))).drop q) i (by rw [hu]; exact hi)
          rw [hv] at this
          exact this
        obtain ⟨g1, g2⟩ := can.min (by omega) hper
        have := Nat.le_of_dvd (by omega) g1
        exact hno ⟨by omega, g2⟩
      by_cases hyes : 1 + p = b.length ∧ a.length ≤ q
      · refine dr_t (b := (((1 + p : Nat) : Int) == (b.length : Int))) (beq_iff_eq.mpr (by omega)) ?_
        exact dr_t (b := decide ((a.length : Int) ≤ (q : Int))) (decide_eq_true (by omega)) next
      · have main := main hyes
        refine dr_and2 (b1 := (((1 + p : Nat) : Int) == (b.length : Int))) (b2 := decide ((a.length : Int) ≤ (q : Int))) ?_ ?_
        · rw [Bool.eq_false_iff]
          intro z
          obtain ⟨z1, z2⟩ := Bool.and_eq_true_iff.mp z
          have z1 := beq_iff_eq.mp z1
          have z2 := of_decide_eq_true z2
          exact hyes ⟨by omega, by omega⟩
        · have exs : [PV.str s, .str l, .tup [.str (cutL (pre s l (s.length + 3 * l.length + 2 * l.length)) none (some (q : Int))), .str (cutL (pre s l (s.length + 3 * l.length + 2 * l.length)) (some (q : Int)) (some ((q : Int) + ((1 + p : Nat) : Int))))]] = [.str s, .str l, .tup [.str ((pre s l (s.length + 3 * l.length + 2 * l.length)).take q), .str (((pre s l (s.length + 3 * l.length + 2 * l.length)).take (q + (1 + p))).drop q)]] := by
            rw [cut_to, show ((q : Int) + ((1 + p : Nat) : Int)) = ((q + (1 + p) : Nat) : Int) from rfl, cut_mid]
          refine ⟨by show 2 ≤ 100000; decide, rfl, s, l, _, _, exs, hl, hvn, by omega, by omega, by rw [hu]; omega, by rw [hv]; omega, .inl rfl, ?_⟩
          exact dr_f main next
end T73

namespace T73
open PySem PySem.Spec PyProof.Rows L2 NL
-- slots: 0 script, 1 feed, 2 letters, 3 start, 4 loop, 5 least, 6 turn, 7 shift, 8 value, 9 due, 10 odd
def w_law_s10 : WS := (wRet (wB gAll (wCons (wFz (wComp (.one 8) [8] (wIter (wVar 10)) wYes (wOp pIs (wCallK 4 W_is_round (gApp 3 1) (wCons (wVar 2) (wCons (wVar 3) (wCons (wVar 4) wNil))) (wCons (wVar 8) wNil)) (wC (.bl false))))) wNil)))
def w_law_odd : WS := (wSeq (wSet 10 (wFz (wLst (wCons (wC .non) (wCons (wC (.int 7)) (wCons (wC (.str [])) (wCons (wTup (wCons (wVar 3) wNil)) (wCons (wTup (wCons (wVar 3) (wCons (wC (.str [])) wNil))) (wCons (wFz (wLst (wCons (wVar 3) (wCons (wVar 4) wNil)))) (wCons (wTup (wCons (wVar 3) (wCons (wVar 4) (wCons (wC (.str [])) wNil)))) (wCons (wTup (wCons (wVar 3) (wCons (wC (.str [65])) wNil))) (wCons (wTup (wCons (wC .non) (wCons (wVar 4) wNil))) (wCons (wTup (wCons (wVar 3) (wCons (wC (.int 1)) wNil))) wNil))))))))))))) w_law_s10)
def w_law_s9 : WS := (wForget [6, 7, 8, 9] w_law_odd)
def w_law_due : WS := (wSeq (wSet 9 (wCall 3 W__law_alike (wCons (wVar 3) (wCons (wVar 4) (wCons (wVar 8) wNil))))) (wSeq (wIfS (wNotT (wTest (wCall 2 W__law_same (wCons (wCall 4 W_is_round (wCons (wVar 2) (wCons (wVar 3) (wCons (wVar 4) (wCons (wVar 8) wNil))))) (wCons (wVar 9) wNil))))) (wRet (wC (.bl false))) wNext) (wIfS (wTest (wOp pNe (wVar 9) (wCall 2 W__law_same (wCons (wCall 3 W_least_round (wCons (wVar 2) (wCons (wOp pIx (wVar 8) (wC (.int 0))) (wCons (wOp pIx (wVar 8) (wC (.int 1))) wNil)))) (wCons (wVar 5) wNil))))) (wRet (wC (.bl false))) wNext)))
def w_law_if : WS := (wSeq (wIfS (wTest (wOp pEq (wCall 2 W__law_drawn (wCons (wVar 1) (wCons (wC (.int 3)) wNil))) (wC (.int 0)))) (wSet 8 (wTup (wCons (wCall 3 W__law_word (wCons (wVar 1) (wCons (wVar 2) (wCons (wC (.int 4)) wNil)))) (wCons (wOp pAdd (wOp pIx (wVar 2) (wCall 2 W__law_drawn (wCons (wVar 1) (wCons (wB gLen (wCons (wVar 2) wNil)) wNil)))) (wCall 3 W__law_word (wCons (wVar 1) (wCons (wVar 2) (wCons (wC (.int 4)) wNil))))) wNil)))) wNext) w_law_due)
def w_law_turn : WS := (wSeq (wSet 7 (wCall 2 W__law_drawn (wCons (wVar 1) (wCons (wOp pAdd (wB gLen (wCons (wVar 4) wNil)) (wC (.int 1))) wNil)))) (wSeq (wSet 8 (wTup (wCons (wOp pAdd (wVar 3) (wSl (wVar 4) wO0 (wO1 (wVar 7)))) (wCons (wOp pMul (wOp pAdd (wSl (wVar 4) (wO1 (wVar 7)) wO0) (wSl (wVar 4) wO0 (wO1 (wVar 7)))) (wOp pAdd (wC (.int 1)) (wCall 2 W__law_drawn (wCons (wVar 1) (wCons (wC (.int 3)) wNil))))) wNil)))) w_law_if))
def w_law_s8 : WS := (wSeq (wFor (wRng1 (wCons (wOp pAdd (wC (.int 2)) (wB gLen (wCons (wFz (wSlF (wVar 0) wO0 (wO1 (wC (.int 8))))) wNil))) wNil)) (wName 6) (wForget [6, 7, 8, 9] w_law_turn)) w_law_s9)
def w_law_s7 : WS := (wSeq (wIfS (wOrT (wTest (wOp pEq (wOp pIx (wVar 5) (wC (.int 1))) (wC (.str [])))) (wNotT (wTest (wCall 3 W__law_is_least (wCons (wVar 3) (wCons (wVar 4) (wCons (wVar 5) wNil))))))) (wRet (wC (.bl false))) wNext) w_law_s8)
def w_law_s6 : WS := (wSeq (wIfS (wOrT (wNotT (wTest (wB gIsi (wCons (wVar 5) (wCons (wC (.ty "tuple")) wNil))))) (wOrT (wTest (wOp pNe (wB gLen (wCons (wVar 5) wNil)) (wC (.int 2)))) (wNotT (wTest (wCall 2 W__law_same (wCons (wVar 5) (wCons (wTup (wCons (wB gStr (wCons (wOp pIx (wVar 5) (wC (.int 0))) wNil)) (wCons (wB gStr (wCons (wOp pIx (wVar 5) (wC (.int 1))) wNil)) wNil))) wNil))))))) (wRet (wC (.bl false))) wNext) w_law_s7)
def w_law_s5 : WS := (wSeq (wSet 5 (wCall 3 W_least_round (wCons (wVar 2) (wCons (wVar 3) (wCons (wVar 4) wNil))))) w_law_s6)
def w_law_s4 : WS := (wSeq (wSet 4 (wOp pMul (wVar 4) (wOp pIx (wFz (wLst (wCons (wC (.int 1)) (wCons (wC (.int 1)) (wCons (wC (.int 2)) (wCons (wC (.int 3)) wNil)))))) (wCall 2 W__law_drawn (wCons (wVar 1) (wCons (wC (.int 4)) wNil)))))) w_law_s5)
def w_law_s3 : WS := (wSeq (wSet 4 (wOp pAdd (wOp pIx (wVar 2) (wCall 2 W__law_drawn (wCons (wVar 1) (wCons (wB gLen (wCons (wVar 2) wNil)) wNil)))) (wCall 3 W__law_word (wCons (wVar 1) (wCons (wVar 2) (wCons (wC (.int 2)) wNil)))))) w_law_s4)
def w_law_s2 : WS := (wSeq (wSet 3 (wCall 3 W__law_word (wCons (wVar 1) (wCons (wVar 2) (wCons (wC (.int 5)) wNil))))) w_law_s3)
def w_law_s1 : WS := (wSeq (wSet 2 (wCall 1 W__law_letters (wCons (wVar 1) wNil))) w_law_s2)
def w_law : WS := (wSeq (wSetF 1 (wCallF 1 W__law_feed (wCons (wVar 0) wNil))) (wRes 1 2 200 w_law_s1))
theorem roundB_two {L s l a b : List Nat} (v : Vd L s l) (w : Vd L a b) : roundB L s l (.tup [.str a, .str b]) = some (pre s l (max s.length a.length + l.length + b.length) == pre a b (max s.length a.length + l.length + b.length)) := by
  unfold roundB
  dsimp only
  rw [wordB_str w.sl, wordB_str w.ll, w.ws, w.wl]
  dsimp only
  rw [if_pos (by rfl), if_neg w.ne]
theorem bool_eq {a b : Bool} (h : a = true ↔ b = true) : a = b := Bool.eq_iff_iff.mpr h
theorem due_ok {D : WD} {n : Nat} {L s l s0 l0 a b : List Nat} {y0 y7 : PV} (v : Vd L s l) (w : Vd L a b) (can : Can (inf s l) s0 l0) (h1 : s.length ≤ 100) (h2 : l.length ≤ 100) (h3 : a.length ≤ 100) (h4 : b.length ≤ 100)
    (k : ∀ x9', D.nx [.sh y0, .res 2 n, .sh (.str L), .sh (.str s), .sh (.str l), .sh (.tup [.str s0, .str l0]), .un, .sh y7, .sh (.tup [.str a, .str b]), .sh x9', .un]) :
    w_law_due D [.sh y0, .res 2 n, .sh (.str L), .sh (.str s), .sh (.str l), .sh (.tup [.str s0, .str l0]), .un, .sh y7, .sh (.tup [.str a, .str b]), .un, .un] := by
  refine ⟨rfl, s, l, a, b, rfl, v.ne, w.ne, by omega, by omega, by omega, by omega, .inl rfl, ?_⟩
  refine ⟨rfl, L, s, l, _, _, rfl, v, roundB_two v w, .inl rfl, ?_⟩
  refine ⟨rfl, .inl (.inr ⟨_, _, rfl, .inl rfl, ?_⟩)⟩
  have e1 : (pre s l (max s.length a.length + l.length + b.length) == pre a b (max s.length a.length + l.length + b.length)) = (pre s l (s.length + l.length + a.length + b.length) == pre a b (s.length + l.length + a.length + b.length)) :=
    bool_eq (by rw [far_eq v.ne w.ne, beq_iff_eq]; exact inf_far v.ne w.ne (Nat.le_refl _))
  refine dr_f (by rw [e1, beq_self_eq_true]; rfl) ?_
  refine ⟨rfl, L, a, b, rfl, w, fun s1 l1 can1 g1 g2 g3 g4 => ⟨.inl rfl, rfl, .inr ⟨s1, l1, s0, l0, rfl, .inl rfl, ?_⟩⟩⟩
  have e2 : (pre s l (s.length + l.length + a.length + b.length) == pre a b (s.length + l.length + a.length + b.length)) = ((s1 == s0) && (l1 == l0)) := bool_eq (by
    rw [far_eq v.ne w.ne, Bool.and_eq_true_iff, beq_iff_eq, beq_iff_eq]
    constructor
    · intro he
      have : inf s l = inf a b := funext he
      rw [this] at can
      exact can1.unique can
    · rintro ⟨rfl, rfl⟩ i
      exact (can.eq i).symm.trans (can1.eq i))
  refine dr_f (b := !((pre s l (s.length + l.length + a.length + b.length) == pre a b (s.length + l.length + a.length + b.length)) == ((s1 == s0) && (l1 == l0)))) (by rw [e2, beq_self_eq_true]; rfl) ?_
  exact k _
theorem odd_ok {D : WD} {n : Nat} {L s l s0 l0 : List Nat} {y0 : PV} (v : Vd L s l) (hD : ∀ ρ, D.rt (.sh (.bl true)) ρ) :
    w_law_odd D [.sh y0, .res 2 n, .sh (.str L), .sh (.str s), .sh (.str l), .sh (.tup [.str s0, .str l0]), .un, .un, .un, .un, .un] := by
  have g : ∀ {xs : List PV}, Nat.ble xs.length 100000 = true → xs.length ≤ 100000 := fun h => Nat.le_of_ble_eq_true h
  refine ⟨g rfl, g rfl, g rfl, g rfl, g rfl, g rfl, g rfl, g rfl, ?_⟩
  refine ⟨g rfl, noOwn_of rfl, ?_⟩
  have h65 : inL L [65] = false := by
    show (decide (65 ∈ L) && true) = false
    rw [decide_eq_false]
    · rfl
    · intro z
      exact absurd (v.hL.2.2.1 65 z) (by decide)
  have w1 : wordB L (.str s) = some true := by rw [wordB_str v.sl, v.ws]
  have w2 : wordB L (.str l) = some true := by rw [wordB_str v.ll, v.wl]
  have w3 : wordB L (.str []) = some true := rfl
  have w4 : wordB L (.str [65]) = some false := by rw [wordB_str (by decide), h65]
  let odds : List PV := [.non, .int 7, .str [], .tup [.str s], .tup [.str s, .str []], .lst [.str s, .str l], .tup [.str s, .str l, .str []], .tup [.str s, .str [65]], .tup [.non, .str l], .tup [.str s, .int 1]]
  have hodd : ∀ a ∈ odds, roundB L s l a = some false ∧ hasRes [.str L, .str s, .str l, a] = false := by
    intro a ha
    simp only [odds, List.mem_cons, List.not_mem_nil, or_false] at ha
    rcases ha with rfl | rfl | rfl | rfl | rfl | rfl | rfl | rfl | rfl | rfl
    · exact ⟨rfl, rfl⟩
    · exact ⟨rfl, rfl⟩
    · exact ⟨rfl, rfl⟩
    · exact ⟨rfl, rfl⟩
    · refine ⟨?_, rfl⟩
      unfold roundB
      dsimp only
      rw [w1, w3]
      rfl
    · exact ⟨rfl, rfl⟩
    · exact ⟨rfl, rfl⟩
    · refine ⟨?_, rfl⟩
      unfold roundB
      dsimp only
      rw [w1, w4]
      rfl
    · refine ⟨?_, rfl⟩
      unfold roundB
      dsimp only
      rw [w2]
      rfl
    · refine ⟨?_, rfl⟩
      unfold roundB
      dsimp only
      rw [w1]
      rfl
  refine wLC_of0 (fun a : PV => a) (fun _ => .bl true) odds (fun a ha => ⟨_, rfl, rfl, rfl, fun p h => h, fun p h => ⟨rfl, L, s, l, a, false, rfl, v, (hodd a ha).1, .inl rfl, b_after (hodd a ha).2 h⟩⟩) ?_
  exact hD _
theorem take_ne {α : Type} {l : List α} (h : l ≠ []) (k : Nat) : l.drop k ++ l.take k ≠ [] := by
  intro z
  have := congrArg List.length z
  rw [List.length_append, List.length_drop, List.length_take, List.length_nil] at this
  have := List.length_pos_iff.mpr h
  omega
theorem inL_append {L a b : List Nat} (h : inL L a = true) (k : inL L b = true) : inL L (a ++ b) = true := by
  unfold inL at *
  rw [List.all_append, h, k]; rfl
theorem inL_rep {L a : List Nat} (h : inL L a = true) (n : Nat) : inL L (List.replicate n a).flatten = true := inL_sub h fun c hc => by
  obtain ⟨q, hq, hc⟩ := List.mem_flatten.mp hc
  rw [(List.mem_replicate.mp hq).2] at hc
  exact hc
theorem inL_one {L : List Nat} {i : Nat} (h : i < L.length) : inL L [L[i]] = true := by
  show (decide (L[i] ∈ L) && true) = true
  rw [decide_eq_true (List.getElem_mem h)]; rfl
theorem rep_ne {a : List Nat} {n : Nat} (h : a ≠ []) (hn : 0 < n) : (List.replicate n a).flatten ≠ [] := by
  intro z
  have := congrArg List.length z
  rw [flat_len, List.length_nil] at this
  have h1 := List.length_pos_iff.mpr h
  have := Nat.mul_pos hn h1
  omega
abbrev St (y0 : PV) (n : Nat) (L s l s0 l0 : List Nat) (r : Sls) : Sls := .sh y0 :: .res 2 n :: .sh (.str L) :: .sh (.str s) :: .sh (.str l) :: .sh (.tup [.str s0, .str l0]) :: r
theorem if_ok {D : WD} {m : Nat} {L s l s0 l0 a b : List Nat} {y0 y7 : PV} (v : Vd L s l) (can : Can (inf s l) s0 l0) (h1 : s.length ≤ 5) (h2 : l.length ≤ 9) (w : Vd L a b) (h3 : a.length ≤ 100) (h4 : b.length ≤ 100)
    (k : ∀ n' x8 x9, m ≤ n' → D.nx (St y0 n' L s l s0 l0 [.un, .sh y7, .sh x8, .sh x9, .un])) :
    w_law_if D (St y0 (m + 12) L s l s0 l0 [.un, .sh y7, .sh (.tup [.str a, .str b]), .un, .un]) := by
  have hL := v.hL
  have hL1 := hL.1
  have hL2 := hL.2.1
  refine ⟨rfl, m + 11, 3, rfl, by decide, by decide, fun d d0 d1 => ⟨.inr (.inr ⟨rfl, rfl⟩), ?_⟩⟩
  refine dr_if (fun e => ?_) (fun e => ?_)
  · refine ⟨rfl, m + 6, 4, L, rfl, hL, by decide, fun a' ha hal => ⟨.inr (.inr ⟨rfl, rfl⟩), ?_⟩⟩
    refine ⟨rfl, m + 5, L.length, rfl, by omega, by omega, fun v' v0 v1 => ⟨.inr (.inr ⟨rfl, rfl⟩), ?_⟩⟩
    obtain ⟨i, rfl⟩ := toN v0
    have hi : i < L.length := by omega
    refine b_ix (sIx (n := i) (List.getElem?_eq_getElem hi)) ?_
    refine ⟨rfl, m, 4, L, rfl, hL, by decide, fun u hu hul => ⟨.inr (.inr ⟨rfl, rfl⟩), ?_⟩⟩
    refine b_add (sAdd (by rw [List.length_singleton]; omega)) ?_
    refine ⟨by show 2 ≤ 100000; decide, ?_⟩
    have hbl : ([L[i]] ++ u).length ≤ 5 := by rw [List.length_append, List.length_singleton]; omega
    exact due_ok (n := m) (L := L) (s := s) (l := l) (s0 := s0) (l0 := l0) (a := a') (b := [L[i]] ++ u) v ⟨hL, ha, inL_append (inL_one hi) hu, by simp, by omega, by omega⟩ can (by omega) (by omega) (by omega) (by omega) fun x9 => k m _ x9 (Nat.le_refl m)
  · exact due_ok (n := m + 11) (L := L) (s := s) (l := l) (s0 := s0) (l0 := l0) (a := a) (b := b) v w can (by omega) (by omega) h3 h4 fun x9 => k (m + 11) _ x9 (by omega)
theorem turn_ok {D : WD} {m : Nat} {L s l s0 l0 : List Nat} {y0 : PV} (v : Vd L s l) (can : Can (inf s l) s0 l0) (h1 : s.length ≤ 5) (h2 : l.length ≤ 9)
    (k : ∀ n' x7 x8 x9, m ≤ n' → D.nx (St y0 n' L s l s0 l0 [.un, .sh x7, .sh x8, .sh x9, .un])) :
    w_law_turn D (St y0 (m + 14) L s l s0 l0 [.un, .un, .un, .un, .un]) := by
  refine ⟨rfl, m + 13, (l.length : Int) + 1, rfl, by omega, by omega, fun d d0 d1 => ⟨.inr (.inr ⟨rfl, rfl⟩), ?_⟩⟩
  obtain ⟨q, rfl⟩ := toN d0
  have hq : q ≤ l.length := by omega
  have ht : (l.take q).length ≤ 9 := by rw [List.length_take]; omega
  refine b_add (z := .str (s ++ l.take q)) (by rw [cut_to]; exact sAdd (by omega)) ?_
  have hdt : (l.drop q ++ l.take q).length = l.length := by rw [List.length_append, List.length_drop, List.length_take]; omega
  refine b_add (z := .str (l.drop q ++ l.take q)) (by rw [cut_to, cut_from]; exact sAdd (by rw [← List.length_append, hdt]; omega)) ?_
  refine ⟨rfl, m + 12, 3, rfl, by decide, by decide, fun d d0 d1 => ⟨.inr (.inr ⟨rfl, rfl⟩), ?_⟩⟩
  obtain ⟨e, rfl⟩ := toN d0
  have hm : (l.drop q ++ l.take q).length * (1 + e) ≤ 27 := by
    rw [hdt]
    have : e = 0 ∨ e = 1 ∨ e = 2 := by omega
    rcases this with rfl | rfl | rfl <;> omega
  refine b_mul (sRep (a := l.drop q ++ l.take q) (n := 1 + e) (by omega) (by omega)) ?_
  refine ⟨by show 2 ≤ 100000; decide, ?_⟩
  have hne : (List.replicate (1 + e) (l.drop q ++ l.take q)).flatten ≠ [] := rep_ne (take_ne v.ne q) (by omega)
  have hw : inL L (List.replicate (1 + e) (l.drop q ++ l.take q)).flatten = true := inL_rep (inL_append (inL_sub v.wl fun c hc => List.mem_of_mem_drop hc) (inL_sub v.wl fun c hc => List.mem_of_mem_take hc)) _
  have hle : (List.replicate (1 + e) (l.drop q ++ l.take q)).flatten.length ≤ 27 := by rw [flat_len, Nat.mul_comm]; exact hm
  have hwa : inL L (s ++ l.take q) = true := inL_append v.ws (inL_sub v.wl fun c hc => List.mem_of_mem_take hc)
  have hla : (s ++ l.take q).length ≤ 14 := by rw [List.length_append]; omega
  exact if_ok (m := m) (L := L) (s := s) (l := l) (s0 := s0) (l0 := l0) v can h1 h2 ⟨v.hL, hwa, hw, hne, by omega, by omega⟩ (by omega) (by omega) fun n' x8 x9 hn => k n' _ x8 x9 hn
theorem s8_ok {D : WD} {n : Nat} {L s l s0 l0 : List Nat} {ys : List PV} (v : Vd L s l) (can : Can (inf s l) s0 l0) (h1 : s.length ≤ 5) (h2 : l.length ≤ 9) (hn : 140 ≤ n) (hD : ∀ ρ, D.rt (.sh (.bl true)) ρ) :
    w_law_s8 D (St (.lst ys) n L s l s0 l0 [.un, .un, .un, .un, .un]) := by
  have hc : cutL ys none (some (8 : Int)) = ys.take 8 := cut_to ys 8
  have hcl : (cutL ys none (some (8 : Int))).length ≤ 8 := by rw [hc, List.length_take]; omega
  refine ⟨⟨by omega, by omega⟩, ?_⟩
  have hrl : (rng 0 ((2 : Int) + ((cutL ys none (some (8 : Int))).length : Nat))).length ≤ 10 := by
    unfold rng
    rw [List.length_map, List.length_range]; omega
  refine wLoop_ind (fun xs ρ => ∃ n' x6 x7 x8 x9, 14 * xs.length ≤ n' ∧ ρ = St (.lst ys) n' L s l s0 l0 [x6, x7, x8, x9, .un]) ?_ ?_ _ _ ⟨n, .un, .un, .un, .un, by omega, rfl⟩
  · rintro ρ ⟨n', x6, x7, x8, x9, _, rfl⟩
    exact odd_ok (n := n') (L := L) (s := s) (l := l) (s0 := s0) (l0 := l0) (y0 := .lst ys) v hD
  · rintro x xs ih ρ ⟨n', x6, x7, x8, x9, hn', rfl⟩
    rw [List.length_cons] at hn'
    obtain ⟨m, rfl⟩ : ∃ m, n' = m + 14 := ⟨n' - 14, by omega⟩
    exact turn_ok (m := m) (L := L) (s := s) (l := l) (s0 := s0) (l0 := l0) (y0 := .lst ys) v can h1 h2 fun n'' y7 y8 y9 h => ih _ ⟨n'', .un, .sh y7, .sh y8, .sh y9, by omega, rfl⟩
theorem s5_ok {D : WD} {n : Nat} {L s l : List Nat} {ys : List PV} (v : Vd L s l) (h1 : s.length ≤ 5) (h2 : l.length ≤ 9) (hn : 140 ≤ n) (hD : ∀ ρ, D.rt (.sh (.bl true)) ρ) :
    w_law_s5 D [.sh (.lst ys), .res 2 n, .sh (.str L), .sh (.str s), .sh (.str l), .un, .un, .un, .un, .un, .un] := by
  refine ⟨rfl, L, s, l, rfl, v, fun s0 l0 can h3 h4 h5 h6 => ⟨.inl rfl, ?_⟩⟩
  show w_law_s6 _ (St (.lst ys) n L s l s0 l0 [.un, .un, .un, .un, .un])
  refine ⟨by show 2 ≤ 100000; decide, rfl, .inr ⟨s0, l0, s0, l0, rfl, .inl rfl, ?_⟩⟩
  refine dr_f (b := !((s0 == s0) && (l0 == l0))) (by rw [beq_self_eq_true, beq_self_eq_true]; rfl) ?_
  show w_law_s7 _ (St (.lst ys) n L s l s0 l0 [.un, .un, .un, .un, .un])
  refine dr_f (beq_nil can.ne) ⟨rfl, s, l, s0, l0, rfl, v.ne, can, by omega, by omega, h3, h4, .inl rfl, ?_⟩
  exact s8_ok v can h1 h2 hn hD
theorem s4_ok {D : WD} {n : Nat} {L s c : List Nat} {ys : List PV} (hL : Lt L) (hs : inL L s = true) (h1 : s.length ≤ 5) (hc : inL L c = true) (hne : c ≠ []) (hcl : c.length ≤ 3) (hn : 140 ≤ n) (hD : ∀ ρ, D.rt (.sh (.bl true)) ρ) :
    w_law_s4 D [.sh (.lst ys), .res 2 (n + 1), .sh (.str L), .sh (.str s), .sh (.str c), .un, .un, .un, .un, .un, .un] := by
  refine ⟨by show 4 ≤ 100000; decide, rfl, n, 4, rfl, by decide, by decide, fun v v0 v1 => ⟨.inr (.inr ⟨rfl, rfl⟩), ?_⟩⟩
  have hm : ∃ m : Nat, (m = 1 ∨ m = 2 ∨ m = 3) ∧ pIx (.lst [.int 1, .int 1, .int 2, .int 3]) (.int v) = some (.int m) := by
    have : v = 0 ∨ v = 1 ∨ v = 2 ∨ v = 3 := by omega
    rcases this with rfl | rfl | rfl | rfl
    · exact ⟨1, by omega, rfl⟩
    · exact ⟨1, by omega, rfl⟩
    · exact ⟨2, by omega, rfl⟩
    · exact ⟨3, by omega, rfl⟩
  obtain ⟨m, hm, em⟩ := hm
  refine b_ix em ?_
  have hlen : c.length * m ≤ 9 := by rcases hm with rfl | rfl | rfl <;> omega
  refine b_mul (sRep (a := c) (n := m) (by omega) (by omega)) ?_
  have hll : (List.replicate m c).flatten.length ≤ 9 := by rw [flat_len, Nat.mul_comm]; exact hlen
  exact s5_ok (n := n) (L := L) (s := s) ⟨hL, hs, inL_rep hc m, rep_ne hne (by omega), by omega, by omega⟩ h1 hll hn hD
theorem s3_ok {D : WD} {n : Nat} {L s : List Nat} {ys : List PV} (hL : Lt L) (hs : inL L s = true) (h1 : s.length ≤ 5) (hn : 140 ≤ n) (hD : ∀ ρ, D.rt (.sh (.bl true)) ρ) :
    w_law_s3 D [.sh (.lst ys), .res 2 (n + 5), .sh (.str L), .sh (.str s), .un, .un, .un, .un, .un, .un, .un] := by
  have hL1 := hL.1
  have hL2 := hL.2.1
  refine ⟨rfl, n + 4, L.length, rfl, by omega, by omega, fun v v0 v1 => ⟨.inr (.inr ⟨rfl, rfl⟩), ?_⟩⟩
  obtain ⟨i, rfl⟩ := toN v0
  have hi : i < L.length := by omega
  refine b_ix (sIx (n := i) (List.getElem?_eq_getElem hi)) ?_
  refine ⟨rfl, n + 1, 2, L, rfl, hL, by decide, fun u hu hul => ⟨.inr (.inr ⟨rfl, rfl⟩), ?_⟩⟩
  refine b_add (sAdd (by rw [List.length_singleton]; omega)) ?_
  exact s4_ok (n := n) (L := L) (s := s) (c := [L[i]] ++ u) hL hs h1 (inL_append (inL_one hi) hu) (by simp) (by rw [List.length_append, List.length_singleton]; omega) hn hD
theorem v_law : ∀ ns : List Int, ns.length ≤ 63 → w_law { nx := fun _ => False, rt := fun r _ => r = .sh (.bl true) } (startS 11 [.lst (ns.map .int)]) := by
  intro ns hns
  refine ⟨rfl, ns.map .int, rfl, .inl rfl, ?_⟩
  refine ⟨rfl, ⟨⟨0, 0, ns, rfl, Int.le_refl 0⟩, .inr ⟨_, 0, _, rfl, by decide⟩⟩, ?_⟩
  show w_law_s1 _ [.sh (.lst (ns.map .int)), .res 2 200, .un, .un, .un, .un, .un, .un, .un, .un, .un]
  refine ⟨rfl, 196, rfl, fun L hL => ⟨.inr (.inr ⟨rfl, rfl⟩), ?_⟩⟩
  show w_law_s2 _ [.sh (.lst (ns.map .int)), .res 2 196, .sh (.str L), .un, .un, .un, .un, .un, .un, .un, .un]
  refine ⟨rfl, 190, 5, L, rfl, hL, by decide, fun s hs hsl => ⟨.inr (.inr ⟨rfl, rfl⟩), ?_⟩⟩
  exact s3_ok (n := 185) (L := L) (s := s) hL hs hsl (by decide) (fun _ => ⟨trivial, rfl⟩)
end T73

namespace T73
open PySem PySem.Spec PyProof.Rows L2 NL
def topS (i : Nat) : Stmt := PySem.Challenge.pw_wholekinds_k73_whole_rounds_of_one_word.main.body.getD i (.Pass ⟨0, 0, 0, 0⟩)
structure Tops (mg : Str → Option Value) : Prop where
  n_all : mg "all" = none
  n_bool : mg "bool" = none
  n_int : mg "int" = none
  n_isinstance : mg "isinstance" = none
  n_len : mg "len" = none
  n_list : mg "list" = none
  n_max : mg "max" = none
  n_range : mg "range" = none
  n_str : mg "str" = none
  n_tuple : mg "tuple" = none
  n_zip : mg "zip" = none
  g_LETTERS : ∃ t, mg "LETTERS" = some (.str ⟨List.toArray [97, 98, 99, 100, 101, 102, 103, 104, 105, 106, 107, 108, 109, 110, 111, 112, 113, 114, 115, 116, 117, 118, 119, 120, 121, 122]⟩ t)
  g_MOST_LETTERS : ∃ t, mg "MOST_LETTERS" = some (.int 3 t)
section
variable {P : Program} {w : World} {K : PySem.W.Frag} {mg : Str → Option Value} {base : Heap}
abbrev s_is_ascending : Stmt := topS 7
abbrev N_is_ascending : List Str := ["row", "one", "other"]
theorem sc_is_ascending : FnScope N_is_ascending ["row"] (defScope s_is_ascending) := ⟨rfl, rfl, rfl, by decide +kernel, rfl, by decide +kernel, by decide +kernel⟩
theorem d_is_ascending (T : Tops mg)  {f : Addr} {cdv : Value} {A : Around} {outer : List Env} {s : Shared} {H : Hp} {E : XK} (hr : Room 0 (A.deeper (envOfC "is_ascending" (defScope s_is_ascending) s.heap.objs.size f cdv))) :
    SWs (cxOf CX0 P w K mg base N_is_ascending "is_ascending" (defScope s_is_ascending) f cdv A outer s H E).nox (defBody s_is_ascending) w_is_ascending := by
  have nd : N_is_ascending.Nodup := sc_is_ascending.nd
  unfold w_is_ascending
  exact (sws_one (sw_ret (ew_bi (ca_all rfl) T.n_all (aw_cons (ew_fz (ef_lc (T := (.many [1, 2])) (own := [("one", 1), ("other", 2)]) nd rfl (iw_zip T.n_zip (aw_cons (ev 0) (aw_cons (ew_sl (ev 0) (o1 ew_int) o0) aw_nil))) (blkOk_by rfl) (by decide) (fun _ _ _ _ _ => (pg_tup rfl (pgs_cons (pg_name (i := 1) nd rfl (.inl rfl)) (pgs_cons (pg_name (i := 2) nd rfl (.inl rfl)) pgs_nil)))) (fun _ _ _ _ _ => tsw_nil) (fun _ _ _ _ _ => (ew_cmp ow_lt (ev 1) (ev 2))))) aw_nil))))
theorem c_is_ascending (T : Tops mg)  {f : Addr} {fd : FuncData} (F : Fun K "is_ascending" "is_ascending" s_is_ascending f fd) (hm : mg "is_ascending" = some (.ref f)) (hb : Binds K fd ["row"] []) : CalW P w K mg base 1 "is_ascending" 1 W_is_ascending :=
  cal_ok F hm hb sc_is_ascending rfl fun _ _ _ _ _ _ hr => ⟨w_is_ascending, d_is_ascending T  hr, v_is_ascending⟩
abbrev s_is_letter : Stmt := topS 8
abbrev N_is_letter : List Str := ["value"]
theorem sc_is_letter : FnScope N_is_letter ["value"] (defScope s_is_letter) := ⟨rfl, rfl, rfl, by decide +kernel, rfl, by decide +kernel, by decide +kernel⟩
theorem d_is_letter (T : Tops mg)  {f : Addr} {cdv : Value} {A : Around} {outer : List Env} {s : Shared} {H : Hp} {E : XK} (hr : Room 0 (A.deeper (envOfC "is_letter" (defScope s_is_letter) s.heap.objs.size f cdv))) :
    SWs (cxOf CX0 P w K mg base N_is_letter "is_letter" (defScope s_is_letter) f cdv A outer s H E).nox (defBody s_is_letter) w_is_letter := by
  have nd : N_is_letter.Nodup := sc_is_letter.nd
  unfold w_is_letter
  exact (sws_one (sw_ret (ew_and (ew_bi ca_isi T.n_isinstance (aw_cons (ev 0) (aw_cons (ew_tyname T.n_str) aw_nil))) (ew_and (ew_cmp (ow_eq hr.units) (ew_bi ca_len T.n_len (aw_cons (ev 0) aw_nil)) ew_int) (ew_one (ew_cmp (ow_in hr.units65) (ev 0) (ew_gstr [97, 98, 99, 100, 101, 102, 103, 104, 105, 106, 107, 108, 109, 110, 111, 112, 113, 114, 115, 116, 117, 118, 119, 120, 121, 122] T.g_LETTERS)))))))
theorem c_is_letter (T : Tops mg)  {f : Addr} {fd : FuncData} (F : Fun K "is_letter" "is_letter" s_is_letter f fd) (hm : mg "is_letter" = some (.ref f)) (hb : Binds K fd ["value"] []) : CalW P w K mg base 1 "is_letter" 1 W_is_letter :=
  cal_ok F hm hb sc_is_letter rfl fun _ _ _ _ _ _ hr => ⟨w_is_letter, d_is_letter T  hr, v_is_letter⟩
abbrev s_is_alphabet : Stmt := topS 9
abbrev N_is_alphabet : List Str := ["value", "letter"]
theorem sc_is_alphabet : FnScope N_is_alphabet ["value"] (defScope s_is_alphabet) := ⟨rfl, rfl, rfl, by decide +kernel, rfl, by decide +kernel, by decide +kernel⟩
theorem d_is_alphabet (T : Tops mg) (c_is_letter : CalW P w K mg base 1 "is_letter" 1 W_is_letter) (c_is_ascending : CalW P w K mg base 1 "is_ascending" 1 W_is_ascending) {f : Addr} {cdv : Value} {A : Around} {outer : List Env} {s : Shared} {H : Hp} {E : XK} (hr : Room 1 (A.deeper (envOfC "is_alphabet" (defScope s_is_alphabet) s.heap.objs.size f cdv))) :
    SWs (cxOf CX0 P w K mg base N_is_alphabet "is_alphabet" (defScope s_is_alphabet) f cdv A outer s H E).nox (defBody s_is_alphabet) w_is_alphabet := by
  have nd : N_is_alphabet.Nodup := sc_is_alphabet.nd
  unfold w_is_alphabet
  exact (sws_cons (sw_if (LW.tw (lw_or (tw_not (tw_val (ew_bi ca_isi T.n_isinstance (aw_cons (ev 0) (aw_cons (ew_tyname T.n_str) aw_nil))))) (lw_or1 (tw_not (tw_chain ow_le ow_le ew_int (ew_bi ca_len T.n_len (aw_cons (ev 0) aw_nil)) (ew_gint 3 T.g_MOST_LETTERS)))))) (sws_one (sw_ret ew_bl)) sws_nil) (sws_one (sw_ret (ew_and (ew_bi (ca_all rfl) T.n_all (aw_cons (ew_fz (ef_lc (T := (.one 1)) (own := [("letter", 1)]) nd rfl (iw_any (ev 0)) (blkOk_by rfl) (by decide) (fun _ _ _ _ _ => (pg_name (i := 1) nd rfl (.inl rfl))) (fun _ _ _ _ _ => tsw_nil) (fun _ _ _ _ _ => (ew_c c_is_letter hr (aw_cons (ev 1) aw_nil))))) aw_nil)) (ew_one (ew_c c_is_ascending hr (aw_cons (ev 0) aw_nil)))))))
theorem c_is_alphabet (T : Tops mg) (c_is_letter : CalW P w K mg base 1 "is_letter" 1 W_is_letter) (c_is_ascending : CalW P w K mg base 1 "is_ascending" 1 W_is_ascending) {f : Addr} {fd : FuncData} (F : Fun K "is_alphabet" "is_alphabet" s_is_alphabet f fd) (hm : mg "is_alphabet" = some (.ref f)) (hb : Binds K fd ["value"] []) : CalW P w K mg base 2 "is_alphabet" 1 W_is_alphabet :=
  cal_ok F hm hb sc_is_alphabet rfl fun _ _ _ _ _ _ hr => ⟨w_is_alphabet, d_is_alphabet T c_is_letter c_is_ascending hr, v_is_alphabet⟩
abbrev s_is_word : Stmt := topS 10
abbrev N_is_word : List Str := ["letters", "value", "letter"]
theorem sc_is_word : FnScope N_is_word ["letters", "value"] (defScope s_is_word) := ⟨rfl, rfl, rfl, by decide +kernel, rfl, by decide +kernel, by decide +kernel⟩
theorem d_is_word (T : Tops mg)  {f : Addr} {cdv : Value} {A : Around} {outer : List Env} {s : Shared} {H : Hp} {E : XK} (hr : Room 0 (A.deeper (envOfC "is_word" (defScope s_is_word) s.heap.objs.size f cdv))) :
    SWs (cxOf CX0 P w K mg base N_is_word "is_word" (defScope s_is_word) f cdv A outer s H E).nox (defBody s_is_word) w_is_word := by
  have nd : N_is_word.Nodup := sc_is_word.nd
  unfold w_is_word
  exact (sws_one (sw_ret (ew_and (ew_bi ca_isi T.n_isinstance (aw_cons (ev 1) (aw_cons (ew_tyname T.n_str) aw_nil))) (ew_one (ew_bi (ca_all rfl) T.n_all (aw_cons (ew_fz (ef_lc (T := (.one 2)) (own := [("letter", 2)]) nd rfl (iw_any (ev 1)) (blkOk_by rfl) (by decide) (fun _ _ _ _ _ => (pg_name (i := 2) nd rfl (.inl rfl))) (fun _ _ _ _ _ => tsw_nil) (fun _ _ _ _ _ => (ew_cmp (ow_in hr.units65) (ev 2) (ev 0))))) aw_nil))))))
theorem c_is_word (T : Tops mg)  {f : Addr} {fd : FuncData} (F : Fun K "is_word" "is_word" s_is_word f fd) (hm : mg "is_word" = some (.ref f)) (hb : Binds K fd ["letters", "value"] []) : CalW P w K mg base 1 "is_word" 2 W_is_word :=
  cal_ok F hm hb sc_is_word rfl fun _ _ _ _ _ _ hr => ⟨w_is_word, d_is_word T  hr, v_is_word⟩
abbrev s_check_alphabet : Stmt := topS 11
abbrev N_check_alphabet : List Str := ["letters"]
theorem sc_check_alphabet : FnScope N_check_alphabet ["letters"] (defScope s_check_alphabet) := ⟨rfl, rfl, rfl, by decide +kernel, rfl, by decide +kernel, by decide +kernel⟩
theorem d_check_alphabet (T : Tops mg) (c_is_alphabet : CalW P w K mg base 2 "is_alphabet" 1 W_is_alphabet) {f : Addr} {cdv : Value} {A : Around} {outer : List Env} {s : Shared} {H : Hp} {E : XK} (hr : Room 2 (A.deeper (envOfC "check_alphabet" (defScope s_check_alphabet) s.heap.objs.size f cdv))) :
    SWs (cxOf CX0 P w K mg base N_check_alphabet "check_alphabet" (defScope s_check_alphabet) f cdv A outer s H E).nox (defBody s_check_alphabet) w_check_alphabet := by
  have nd : N_check_alphabet.Nodup := sc_check_alphabet.nd
  unfold w_check_alphabet
  exact (sws_one (sw_if (tw_not (tw_val (ew_c c_is_alphabet hr (aw_cons (ev 0) aw_nil)))) (sws_one sw_never) sws_nil))
theorem c_check_alphabet (T : Tops mg) (c_is_alphabet : CalW P w K mg base 2 "is_alphabet" 1 W_is_alphabet) {f : Addr} {fd : FuncData} (F : Fun K "check_alphabet" "check_alphabet" s_check_alphabet f fd) (hm : mg "check_alphabet" = some (.ref f)) (hb : Binds K fd ["letters"] []) : CalW P w K mg base 3 "check_alphabet" 1 W_check_alphabet :=
  cal_ok F hm hb sc_check_alphabet rfl fun _ _ _ _ _ _ hr => ⟨w_check_alphabet, d_check_alphabet T c_is_alphabet hr, v_check_alphabet⟩
abbrev s_check_round : Stmt := topS 13
abbrev N_check_round : List Str := ["letters", "start", "loop"]
theorem sc_check_round : FnScope N_check_round ["letters", "start", "loop"] (defScope s_check_round) := ⟨rfl, rfl, rfl, by decide +kernel, rfl, by decide +kernel, by decide +kernel⟩
theorem d_check_round (T : Tops mg) (c_is_word : CalW P w K mg base 1 "is_word" 2 W_is_word) {f : Addr} {cdv : Value} {A : Around} {outer : List Env} {s : Shared} {H : Hp} {E : XK} (hr : Room 1 (A.deeper (envOfC "check_round" (defScope s_check_round) s.heap.objs.size f cdv))) :
    SWs (cxOf CX0 P w K mg base N_check_round "check_round" (defScope s_check_round) f cdv A outer s H E).nox (defBody s_check_round) w_check_round := by
  have nd : N_check_round.Nodup := sc_check_round.nd
  unfold w_check_round
  exact (sws_cons (sw_if (tw_not (tw_val (ew_c c_is_word hr (aw_cons (ev 0) (aw_cons (ev 1) aw_nil))))) (sws_one sw_never) sws_nil) (sws_one (sw_if (LW.tw (lw_or (tw_not (tw_val (ew_c c_is_word hr (aw_cons (ev 0) (aw_cons (ev 2) aw_nil))))) (lw_or1 (tw_cmp (ow_eq hr.units) (ev 2) (ew_str []))))) (sws_one sw_never) sws_nil)))
theorem c_check_round (T : Tops mg) (c_is_word : CalW P w K mg base 1 "is_word" 2 W_is_word) {f : Addr} {fd : FuncData} (F : Fun K "check_round" "check_round" s_check_round f fd) (hm : mg "check_round" = some (.ref f)) (hb : Binds K fd ["letters", "start", "loop"] []) : CalW P w K mg base 2 "check_round" 3 W_check_round :=
  cal_ok F hm hb sc_check_round rfl fun _ _ _ _ _ _ hr => ⟨w_check_round, d_check_round T c_is_word hr, v_check_round⟩
abbrev s_spelled_out : Stmt := topS 14
abbrev N_spelled_out : List Str := ["start", "loop", "length"]
theorem sc_spelled_out : FnScope N_spelled_out ["start", "loop", "length"] (defScope s_spelled_out) := ⟨rfl, rfl, rfl, by decide +kernel, rfl, by decide +kernel, by decide +kernel⟩
theorem d_spelled_out (T : Tops mg)  {f : Addr} {cdv : Value} {A : Around} {outer : List Env} {s : Shared} {H : Hp} {E : XK} (hr : Room 0 (A.deeper (envOfC "spelled_out" (defScope s_spelled_out) s.heap.objs.size f cdv))) :
    SWs (cxOf CX0 P w K mg base N_spelled_out "spelled_out" (defScope s_spelled_out) f cdv A outer s H E).nox (defBody s_spelled_out) w_spelled_out := by
  have nd : N_spelled_out.Nodup := sc_spelled_out.nd
  unfold w_spelled_out
  exact (sws_one (sw_ret (ew_sl (ew_op ow_add (ev 0) (ew_op ow_mul (ev 1) (ew_op ow_add (ew_op ow_div (ev 2) (ew_bi ca_len T.n_len (aw_cons (ev 1) aw_nil))) ew_int))) o0 (o1 (ev 2)))))
theorem c_spelled_out (T : Tops mg)  {f : Addr} {fd : FuncData} (F : Fun K "spelled_out" "spelled_out" s_spelled_out f fd) (hm : mg "spelled_out" = some (.ref f)) (hb : Binds K fd ["start", "loop", "length"] []) : CalW P w K mg base 1 "spelled_out" 3 W_spelled_out :=
  cal_ok F hm hb sc_spelled_out rfl fun _ _ _ _ _ _ hr => ⟨w_spelled_out, d_spelled_out T  hr, v_spelled_out⟩
abbrev s_is_round : Stmt := topS 15
abbrev N_is_round : List Str := ["letters", "start", "loop", "value", "length", "word"]
theorem sc_is_round : FnScope N_is_round ["letters", "start", "loop", "value"] (defScope s_is_round) := ⟨rfl, rfl, rfl, by decide +kernel, rfl, by decide +kernel, by decide +kernel⟩
theorem d_is_round (T : Tops mg) (c_spelled_out : CalW P w K mg base 1 "spelled_out" 3 W_spelled_out) (c_is_word : CalW P w K mg base 1 "is_word" 2 W_is_word) (c_check_round : CalW P w K mg base 2 "check_round" 3 W_check_round) (c_check_alphabet : CalW P w K mg base 3 "check_alphabet" 1 W_check_alphabet) {f : Addr} {cdv : Value} {A : Around} {outer : List Env} {s : Shared} {H : Hp} {E : XK} (hr : Room 3 (A.deeper (envOfC "is_round" (defScope s_is_round) s.heap.objs.size f cdv))) :
    SWs (cxOf CX0 P w K mg base N_is_round "is_round" (defScope s_is_round) f cdv A outer s H E).nox (defBody s_is_round) w_is_round := by
  have nd : N_is_round.Nodup := sc_is_round.nd
  unfold w_is_round
  exact (sws_cons (sw_expr (ew_c c_check_alphabet hr (aw_cons (ev 0) aw_nil))) (sws_cons (sw_expr (ew_c c_check_round hr (aw_cons (ev 0) (aw_cons (ev 1) (aw_cons (ev 2) aw_nil))))) (sws_cons (sw_if (LW.tw (lw_or (tw_not (tw_val (ew_bi ca_isi T.n_isinstance (aw_cons (ev 3) (aw_cons (ew_tyname T.n_tuple) aw_nil))))) (lw_or (tw_cmp (ow_ne hr.units) (ew_bi ca_len T.n_len (aw_cons (ev 3) aw_nil)) ew_int) (lw_or1 (tw_not (tw_val (ew_bi (ca_all rfl) T.n_all (aw_cons (ew_fz (ef_lc (T := (.one 5)) (own := [("word", 5)]) nd rfl (iw_any (ev 3)) (blkOk_by rfl) (by decide) (fun _ _ _ _ _ => (pg_name (i := 5) nd rfl (.inl rfl))) (fun _ _ _ _ _ => tsw_nil) (fun _ _ _ _ _ => (ew_c c_is_word hr (aw_cons (ev 0) (aw_cons (ev 5) aw_nil)))))) aw_nil)))))))) (sws_one (sw_ret ew_bl)) sws_nil) (sws_cons (sw_if (tw_cmp (ow_eq hr.units) (ew_ix (ev 3) ew_int) (ew_str [])) (sws_one (sw_ret ew_bl)) sws_nil) (sws_cons (sw_set (i := 4) nd (ew_op ow_add (ew_op ow_add (ew_bi (ca_max2 rfl) T.n_max (aw_cons (ew_bi ca_len T.n_len (aw_cons (ev 1) aw_nil)) (aw_cons (ew_bi ca_len T.n_len (aw_cons (ew_ix (ev 3) ew_int) aw_nil)) aw_nil))) (ew_bi ca_len T.n_len (aw_cons (ev 2) aw_nil))) (ew_bi ca_len T.n_len (aw_cons (ew_ix (ev 3) ew_int) aw_nil)))) (sws_one (sw_ret (ew_cmp (ow_eq hr.units) (ew_c c_spelled_out hr (aw_cons (ev 1) (aw_cons (ev 2) (aw_cons (ev 4) aw_nil)))) (ew_c c_spelled_out hr (aw_cons (ew_ix (ev 3) ew_int) (aw_cons (ew_ix (ev 3) ew_int) (aw_cons (ev 4) aw_nil))))))))))))
theorem c_is_round (T : Tops mg) (c_spelled_out : CalW P w K mg base 1 "spelled_out" 3 W_spelled_out) (c_is_word : CalW P w K mg base 1 "is_word" 2 W_is_word) (c_check_round : CalW P w K mg base 2 "check_round" 3 W_check_round) (c_check_alphabet : CalW P w K mg base 3 "check_alphabet" 1 W_check_alphabet) {f : Addr} {fd : FuncData} (F : Fun K "is_round" "is_round" s_is_round f fd) (hm : mg "is_round" = some (.ref f)) (hb : Binds K fd ["letters", "start", "loop", "value"] []) : CalW P w K mg base 4 "is_round" 4 W_is_round :=
  cal_ok F hm hb sc_is_round rfl fun _ _ _ _ _ _ hr => ⟨w_is_round, d_is_round T c_spelled_out c_is_word c_check_round c_check_alphabet hr, v_is_round⟩
abbrev s_least_round : Stmt := topS 16
abbrev N_least_round : List Str := ["letters", "start", "loop", "period"]
theorem sc_least_round : FnScope N_least_round ["letters", "start", "loop"] (defScope s_least_round) := ⟨rfl, rfl, rfl, by decide +kernel, rfl, by decide +kernel, by decide +kernel⟩
theorem d_least_round (T : Tops mg) (c_check_round : CalW P w K mg base 2 "check_round" 3 W_check_round) (c_check_alphabet : CalW P w K mg base 3 "check_alphabet" 1 W_check_alphabet) {f : Addr} {cdv : Value} {A : Around} {outer : List Env} {s : Shared} {H : Hp} {E : XK} (hr : Room 3 (A.deeper (envOfC "least_round" (defScope s_least_round) s.heap.objs.size f cdv))) :
    SWs (cxOf CX0 P w K mg base N_least_round "least_round" (defScope s_least_round) f cdv A outer s H E).nox (defBody s_least_round) w_least_round := by
  have nd : N_least_round.Nodup := sc_least_round.nd
  unfold w_least_round
  exact (sws_cons (sw_expr (ew_c c_check_alphabet hr (aw_cons (ev 0) aw_nil))) (sws_cons (sw_expr (ew_c c_check_round hr (aw_cons (ev 0) (aw_cons (ev 1) (aw_cons (ev 2) aw_nil))))) (sws_cons (sw_set (i := 3) nd ew_int) (sws_cons (sw_while PassesOwn.never (LW.tw (lw_or (tw_cmp (ow_ne hr.units) (ew_op ow_mod (ew_bi ca_len T.n_len (aw_cons (ev 2) aw_nil)) (ev 3)) ew_int) (lw_or1 (tw_cmp (ow_ne hr.units) (ew_op ow_mul (ew_sl (ev 2) o0 (o1 (ev 3))) (ew_op ow_div (ew_bi ca_len T.n_len (aw_cons (ev 2) aw_nil)) (ev 3))) (ev 2))))) (sws_one (sw_aug (i := 3) nd ow_iadd ew_int))) (sws_cons (sw_set (i := 2) nd (ew_sl (ev 2) o0 (o1 (ev 3)))) (sws_cons (sw_while PassesOwn.never (LW.tw (lw_and (tw_cmp (ow_ne hr.units) (ev 1) (ew_str [])) (lw_and1 (tw_cmp (ow_eq hr.units) (ew_ix (ev 1) (ew_un uw_neg ew_int)) (ew_ix (ev 2) (ew_un uw_neg ew_int)))))) (sws_one (sw_par 1 2 nd rfl (aw_cons (ew_sl (ev 1) o0 (o1 (ew_un uw_neg ew_int))) (aw_cons (ew_op ow_add (ew_ix (ev 2) (ew_un uw_neg ew_int)) (ew_sl (ev 2) o0 (o1 (ew_un uw_neg ew_int)))) aw_nil))))) (sws_one (sw_ret (ew_tup (aw_cons (ev 1) (aw_cons (ev 2) aw_nil)))))))))))
theorem c_least_round (T : Tops mg) (c_check_round : CalW P w K mg base 2 "check_round" 3 W_check_round) (c_check_alphabet : CalW P w K mg base 3 "check_alphabet" 1 W_check_alphabet) {f : Addr} {fd : FuncData} (F : Fun K "least_round" "least_round" s_least_round f fd) (hm : mg "least_round" = some (.ref f)) (hb : Binds K fd ["letters", "start", "loop"] []) : CalW P w K mg base 4 "least_round" 3 W_least_round :=
  cal_ok F hm hb sc_least_round rfl fun _ _ _ _ _ _ hr => ⟨w_least_round, d_least_round T c_check_round c_check_alphabet hr, v_least_round⟩
abbrev s__law_feed : Stmt := topS 18
abbrev N__law_feed : List Str := ["script"]
theorem sc__law_feed : FnScope N__law_feed ["script"] (defScope s__law_feed) := ⟨rfl, rfl, rfl, by decide +kernel, rfl, by decide +kernel, by decide +kernel⟩
theorem d__law_feed (T : Tops mg)  {f : Addr} {cdv : Value} {A : Around} {outer : List Env} {s : Shared} {H : Hp} {E : XK} (hr : Room 0 (A.deeper (envOfC "_law_feed" (defScope s__law_feed) s.heap.objs.size f cdv))) :
    SWs (cxOf CX0 P w K mg base N__law_feed "_law_feed" (defScope s__law_feed) f cdv A outer s H E).nox (defBody s__law_feed) w__law_feed := by
  have nd : N__law_feed.Nodup := sc__law_feed.nd
  unfold w__law_feed
  exact (sws_one (sw_retF (ef_lst (aw_cons (ew_fz (ef_ty ca_list T.n_list (aw_cons (ev 0) aw_nil))) (aw_cons ew_int (aw_cons ew_int aw_nil))))))
theorem c__law_feed (T : Tops mg)  {f : Addr} {fd : FuncData} (F : Fun K "_law_feed" "_law_feed" s__law_feed f fd) (hm : mg "_law_feed" = some (.ref f)) (hb : Binds K fd ["script"] []) : CalW P w K mg base 1 "_law_feed" 1 W__law_feed :=
  cal_ok F hm hb sc__law_feed rfl fun _ _ _ _ _ _ hr => ⟨w__law_feed, d__law_feed T  hr, v__law_feed⟩
abbrev s__law_drawn : Stmt := topS 19
abbrev N__law_drawn : List Str := ["feed", "many", "cells", "at", "cell", "mixed", "digit"]
theorem sc__law_drawn : FnScope N__law_drawn ["feed", "many"] (defScope s__law_drawn) := ⟨rfl, rfl, rfl, by decide +kernel, rfl, by decide +kernel, by decide +kernel⟩
def ifBody : List Stmt → List Stmt
  | .If _ b _ _ :: _ => b
  | _ => []
theorem dr_shape {G : Hp} {us : List V} {xs : List PV} (l : IsL K G us xs) (s : shape 2 xs) : ∃ (C : Addr) (cs : List V) (ns : List Int) (a d : Int), us = [.ref C, .int a, .int d] ∧ SqL K G C (ns.map V.int) ∧ 0 ≤ a ∧ Is K G (.ref C) (.lst (ns.map PV.int)) := by
  obtain ⟨a, d, ns, rfl, ha⟩ := s
  cases l with
  | cons l1 l => cases l with
    | cons l2 l => cases l with
      | cons l3 l =>
        cases l
        obtain ⟨C, vs, e, hq, hl⟩ := l1.lst_iff
        cases e
        cases l2.int_iff
        cases l3.int_iff
        cases hl.intsV
        exact ⟨C, [], ns, a, d, rfl, hq, ha, l1⟩
theorem dr_at {ns : List Int} {i : Int} (h : 0 < ns.length) : ∃ c, atI (ns.map V.int) (i % (ns.map V.int).length) = some (.int c) := by
  have hl : (ns.map V.int).length = ns.length := List.length_map _
  have h0 : (0 : Int) < ((ns.map V.int).length : Int) := by omega
  have h1 := Int.emod_nonneg i (Int.ne_of_gt h0)
  have h2 := Int.emod_lt_of_pos i h0
  obtain ⟨j, hj⟩ : ∃ j : Nat, i % (ns.map V.int).length = j := ⟨(i % (ns.map V.int).length).toNat, by omega⟩
  rw [hj]
  have hj2 : j < ns.length := by omega
  exact ⟨ns[j], atI_nat (by rw [List.getElem?_map, List.getElem?_eq_getElem hj2]; rfl)⟩
theorem c__law_drawn (T : Tops mg) {f : Addr} {fd : FuncData} (F : Fun K "_law_drawn" "_law_drawn" s__law_drawn f fd) (hm : mg "_law_drawn" = some (.ref f)) (hb : Binds K fd ["feed", "many"] []) : CalW P w K mg base 1 "_law_drawn" 2 (Wd 2) := by
  refine ⟨f, fd, ["feed", "many"], F.ok sc__law_drawn (fun vs H Q E h => h.1) (fun cdv A outer s H vs Q E hr h => ?_), hm, F.kp, hb⟩
  obtain ⟨F, many, G, n, us, xs, rfl, m0, m1, hg, hGF, hF, l, sh, hbud, fin⟩ := draw_open h
  obtain ⟨C, _, ns, a, d, rfl, hC, ha, hIs⟩ := dr_shape l sh
  have hbud : a + (n + 1 : Nat) ≤ 2 ^ 60 := by
    rcases hbud with z | ⟨c, d', a', e, z⟩
    · omega
    · cases e; exact z
  have hCH : SqL K H C (ns.map V.int) := hg.sql hC
  have key : ∀ (d' : Int) (H1 : Hp) (a' : Int), (∀ q, q ≠ F → H1 q = H q) → H1 F = some (.lst [.ref C, .int a', .int d']) → 0 ≤ a' → a' + n ≤ 2 ^ 60 → ∀ v, 0 ≤ v → v < many → Q (.int v) H1 := fun d' H1 a' h1 h2 h3 h4 v v0 v1 =>
    fin H1 _ [.lst (ns.map PV.int), .int a', .int d'] v h1 h2 (.cons hIs (.cons (.int _) (.cons (.int _) .nil))) ⟨a', d', ns, rfl, h3⟩ (.inr ⟨_, _, _, rfl, h4⟩) v0 v1
  have keep : ∀ H1 : Hp, (∀ q, q ≠ F → H1 q = H q) → SqL K H1 C (ns.map V.int) := fun H1 h1 => Sub.sql (fun q o e => by
    by_cases z : q = F
    · rw [z, hGF] at e; cases e
    · rw [h1 q z]; exact hg q o e) hC
  have nd : N__law_drawn.Nodup := sc__law_drawn.nd
  obtain ⟨tT, dT, hT⟩ : ∃ tT, PSs (cxOf CX0 P w K mg base N__law_drawn "_law_drawn" (defScope s__law_drawn) f cdv A outer s H E).nox ((defBody s__law_drawn).drop 1) tT ∧
      ∀ v2 v3 v4 v5 (H1 : Hp) (a' d' : Int), (∀ q, q ≠ F → H1 q = H q) → H1 F = some (.lst [.ref C, .int a', .int d']) → 0 ≤ a' → a' + n ≤ 2 ^ 60 →
        tT { nx := fun _ H' => Q .non H', rt := Q } [some (.ref F), some (.int many), v2, v3, v4, v5, none] H1 := by
    refine ⟨_, (pss_cons (ps_set (i := 6) nd rfl (.inl rfl) (pe_op op_mod (pe_callTy call_int1 (by rfl) T.n_int (by decide +kernel) (pa_cons (pe_ix ix_list (pv 0) pe_int (fun _ _ => rfl)) pa_nil)) (pv 1)))
      (pss_cons (ps_asg (pe_op op_fdiv (pe_callTy call_int1 (by rfl) T.n_int (by decide +kernel) (pa_cons (pe_ix ix_list (pv 0) pe_int (fun _ _ => rfl)) pa_nil)) (pv 1)) (pg_sub (pv 0) pe_int set_list))
      (pss_one (ps_ret (pv 6))))), fun v2 v3 v4 v5 H1 a' d' h1 h2 h3 h4 => ?_⟩
    refine ⟨_, rfl, F, _, 2, .int d', rfl, rfl, .of h2, rfl, .inl ⟨d', rfl, _, rfl, d', many, rfl, rfl, m0, ?_⟩⟩
    refine ⟨_, rfl, F, _, 2, .int d', rfl, rfl, .of h2, rfl, .inl ⟨d', rfl, _, rfl, d', many, rfl, rfl, ⟨m0, m1⟩, ?_⟩⟩
    refine ⟨_, rfl, F, _, 2, 2, rfl, rfl, h2, rfl, _, rfl, ?_⟩
    exact key (d' / many) _ a' (fun q hq => (upd_ne hq).trans (h1 q hq)) upd_same h3 h4 _ (Int.emod_nonneg _ (Int.ne_of_gt m0)) (Int.emod_lt_of_pos _ m0)
  have M1 : ∀ x : Int, 0 ≤ x % 1000003 ∧ x % 1000003 < 1000003 := fun x => ⟨Int.emod_nonneg _ (by decide), Int.emod_lt_of_pos _ (by decide)⟩
  have mix : ∃ tM, PSs (cxOf CX0 P w K mg base N__law_drawn "_law_drawn" (defScope s__law_drawn) f cdv A outer s H E).nox (ifBody ((ifBody (defBody s__law_drawn)).drop 5)) tM ∧ ∀ (c : Int) (H1 : Hp), (∀ q, q ≠ F → H1 q = H q) → H1 F = some (.lst [.ref C, .int (a + 1), .int d]) → ∀ D : Ends, D.rt = Q → tM D [some (.ref F), some (.int many), some (.ref C), some (.int a), some (.int c), none, none] H1 := by
      refine ⟨_, (pss_cons (ps_set (i := 5) nd rfl (.inl rfl) (pe_op op_mod (pe_callTy call_int1 (by rfl) T.n_int (by decide +kernel) (pa_cons (pe_op op_add (pe_op op_add (pe_op op_add (pe_op op_mul (pe_op op_mod (pe_callTy call_int1 (by rfl) T.n_int (by decide +kernel) (pa_cons (pv 4) pa_nil)) pe_int) pe_int) (pe_op op_mul (pe_op op_mul (pv 3) (pv 3)) pe_int)) (pe_op op_mul (pv 3) pe_int)) pe_int) pa_nil)) pe_int))
        (pss_one (ps_ret (pe_op op_mod (pe_op op_mod (pe_callTy call_int1 (by rfl) T.n_int (by decide +kernel) (pa_cons (pe_op op_mul (pe_op op_mod (pe_callTy call_int1 (by rfl) T.n_int (by decide +kernel) (pa_cons (pe_op op_mul (pv 5) (pv 5)) pa_nil)) pe_int) pe_int) pa_nil)) pe_int) (pv 1))))), fun c H1 h1 h2 D hD => ?_⟩
      have b1 := M1 c
      refine ⟨_, rfl, .inl ⟨c, rfl, c, 1000003, rfl, rfl, (by decide : (0 : Int) < 1000003), _, 619, rfl, rfl, .inr ⟨by decide, by decide⟩, _, rfl, _, rfl, a, a, rfl, rfl, .inl ⟨by omega, by omega⟩, _, 97, rfl, rfl, .inr ⟨by decide, by decide⟩, _, _, rfl, rfl, _, rfl, a, 13, rfl, rfl, .inr ⟨by decide, by decide⟩, _, _, rfl, rfl, _, 5, rfl, rfl, .inl ⟨_, rfl, _, 1000003, rfl, rfl, (by decide : (0 : Int) < 1000003), ?_⟩⟩⟩
      generalize (c % 1000003 * 619 + a * a * 97 + a * 13 + 5) = m0'
      have b2 := M1 m0'
      refine ⟨_, rfl, _, rfl, _, _, rfl, rfl, .inl ⟨by omega, by omega⟩, .inl ⟨_, rfl, _, 998244353, rfl, rfl, (by decide : (0 : Int) < 998244353), _, 48271, rfl, rfl, .inr ⟨by decide, by decide⟩, .inl ⟨_, rfl, _, 2147483647, rfl, rfl, (by decide : (0 : Int) < 2147483647), _, rfl, _, many, rfl, rfl, m0, ?_⟩⟩⟩
      rw [hD]
      exact key d H1 (a + 1) h1 h2 (by omega) (by omega) _ (Int.emod_nonneg _ (Int.ne_of_gt m0)) (Int.emod_lt_of_pos _ m0)
  obtain ⟨tR, dR, hR⟩ : ∃ tR, PSs (cxOf CX0 P w K mg base N__law_drawn "_law_drawn" (defScope s__law_drawn) f cdv A outer s H E).nox ((ifBody (defBody s__law_drawn)).drop 5) tR ∧
      ∀ (c : Int) (H1 : Hp), (∀ q, q ≠ F → H1 q = H q) → H1 F = some (.lst [.ref C, .int (a + 1), .int d]) →
        tR { nx := tT { nx := fun _ H' => Q .non H', rt := Q }, rt := Q } [some (.ref F), some (.int many), some (.ref C), some (.int a), some (.int c), none, none] H1 := by
    obtain ⟨tM, dM, hM⟩ := mix
    refine ⟨_, (pss_cons (ps_if (PW.pt (pw_or (pt_cmpR op_lt (pv 4) (pe_op op_pow pe_int pe_int) (nomark _)) (pw_or1 (pt_cmpR op_ge (pv 3) (pe_callB call_len_seq (by rfl) T.n_len PySem.boot_len (pa_cons (pv 2) pa_nil)) (nomark _)))))
        dM pss_nil)
      (pss_one (ps_asg (pv 4) (pg_sub (pv 0) pe_int set_list)))), fun c H1 h1 h2 => ?_⟩
    have hK := keep H1 h1
    refine ⟨_, rfl, 10, 18, rfl, rfl, ⟨by decide, by decide, by decide⟩, c, _, rfl, rfl, _, rfl, dr_if (fun _ => ?_) (fun _ => ?_)⟩
    · exact dr_if (fun _ => hM c H1 h1 h2 _ rfl) (fun z => absurd z (by decide))
    · refine ⟨_, rfl, .ref C, rfl, C, _, rfl, .inl hK, a, _, rfl, rfl, _, rfl, dr_if (fun _ => hM c H1 h1 h2 _ rfl) (fun _ => ?_)⟩
      refine ⟨_, rfl, _, rfl, F, _, 2, 2, rfl, rfl, h2, rfl, ?_⟩
      exact hT _ _ _ _ _ (a + 1) c (fun q hq => (upd_ne hq).trans (h1 q hq)) upd_same (by omega) (by omega)
  refine ⟨_, pss_cons (ps_if (pt_cmpR op_eq (pe_ix ix_list (pv 0) pe_int (fun _ _ => rfl)) pe_int (nomark _))
    (pss_cons (ps_set (i := 2) nd rfl (.inl rfl) (pe_ix ix_list (pv 0) pe_int (fun _ _ => rfl)))
    (pss_cons (ps_set (i := 3) nd rfl (.inl rfl) (pe_ix ix_list (pv 0) pe_int (fun _ _ => rfl)))
    (pss_cons (ps_asg (pe_op op_add (pv 3) pe_int) (pg_sub (pv 0) pe_int set_list))
    (pss_cons (ps_set (i := 4) nd rfl (.inl rfl) pe_int)
    (pss_cons (ps_if (pt_cmpR op_gt (pe_callB call_len_seq (by rfl) T.n_len PySem.boot_len (pa_cons (pv 2) pa_nil)) pe_int (nomark _))
      (pss_one (ps_set (i := 4) nd rfl (.inl rfl) (pe_ix ix_list (pv 2) (pe_op op_mod (pe_callTy call_int1 (by rfl) T.n_int (by decide +kernel) (pa_cons (pv 3) pa_nil)) (pe_callB call_len_seq (by rfl) T.n_len PySem.boot_len (pa_cons (pv 2) pa_nil))) (fun _ _ => rfl)))) pss_nil)
    dR))))) pss_nil)
    dT, ?_⟩
  -- if feed[2] == 0
  refine ⟨_, rfl, F, _, 2, .int d, rfl, rfl, .of hF, rfl, rfl, _, rfl, dr_if (fun e0 => ?_) (fun e0 => ?_)⟩
  rotate_left
  · exact hT _ _ _ _ H a d (fun _ _ => rfl) hF ha (by omega)
  -- cells, at
  refine ⟨_, rfl, F, _, 0, .ref C, rfl, rfl, .of hF, rfl, ?_⟩
  refine ⟨_, rfl, F, _, 1, .int a, rfl, rfl, .of hF, rfl, ?_⟩
  refine ⟨_, rfl, a, 1, rfl, rfl, _, rfl, F, _, 1, 1, rfl, rfl, hF, rfl, ?_⟩
  have hF1 : upd H F (.lst ([V.ref C, .int a, .int d].set 1 (.int (a + 1)))) F = some (.lst [.ref C, .int (a + 1), .int d]) := upd_same
  have hK1 := keep _ (fun q hq => upd_ne (H := H) (o := .lst ([V.ref C, .int a, .int d].set 1 (.int (a + 1)))) hq)
  -- the two branches meet with some cell
  refine ⟨.ref C, rfl, C, _, rfl, .inl hK1, _, 0, rfl, rfl, _, rfl, dr_if (fun e1 => ?_) (fun e1 => ?_)⟩
  · have hl : 0 < ns.length := by
      have := of_decide_eq_true e1
      rw [List.length_map] at this
      omega
    obtain ⟨c, hc⟩ := dr_at (i := a) hl
    refine ⟨.ref C, rfl, .int a, rfl, .inl ⟨a, rfl, .ref C, rfl, C, _, rfl, .inl hK1, a, _, rfl, rfl, by show (0 : Int) < _; rw [List.length_map]; omega, C, _, _, _, rfl, rfl, hK1, hc, ?_⟩⟩
    exact hR c _ (fun q hq => upd_ne hq) hF1
  · exact hR 0 _ (fun q hq => upd_ne hq) hF1

abbrev s__law_letters : Stmt := topS 20
abbrev N__law_letters : List Str := ["feed", "first", "second", "third", "some", "many"]
theorem sc__law_letters : FnScope N__law_letters ["feed"] (defScope s__law_letters) := ⟨rfl, rfl, rfl, by decide +kernel, rfl, by decide +kernel, by decide +kernel⟩
theorem d__law_letters (T : Tops mg) (c__law_drawn : CalW P w K mg base 1 "_law_drawn" 2 W__law_drawn) {f : Addr} {cdv : Value} {A : Around} {outer : List Env} {s : Shared} {H : Hp} {E : XK} (hr : Room 1 (A.deeper (envOfC "_law_letters" (defScope s__law_letters) s.heap.objs.size f cdv))) :
    SWs (cxOf CX0 P w K mg base N__law_letters "_law_letters" (defScope s__law_letters) f cdv A outer s H E).nox (defBody s__law_letters) w__law_letters := by
  have nd : N__law_letters.Nodup := sc__law_letters.nd
  unfold w__law_letters
  exact (sws_cons (sw_set (i := 1) nd (ew_c c__law_drawn hr (aw_cons (ev 0) (aw_cons ew_int aw_nil)))) (sws_cons (sw_set (i := 2) nd (ew_op ow_add (ew_op ow_add (ev 1) ew_int) (ew_c c__law_drawn hr (aw_cons (ev 0) (aw_cons (ew_op ow_sub ew_int (ev 1)) aw_nil))))) (sws_cons (sw_set (i := 3) nd (ew_op ow_add (ew_op ow_add (ev 2) ew_int) (ew_c c__law_drawn hr (aw_cons (ev 0) (aw_cons (ew_op ow_sub ew_int (ev 2)) aw_nil))))) (sws_cons (sw_set (i := 4) nd (ew_str [97, 98, 99, 100, 101, 102, 103, 104, 105, 106, 107, 108, 109, 110, 111, 112, 113, 114, 115, 116, 117, 118, 119, 120, 121, 122])) (sws_cons (sw_set (i := 5) nd (ew_ix (ew_fz (ef_lst (aw_cons ew_int (aw_cons ew_int (aw_cons ew_int (aw_cons ew_int aw_nil)))))) (ew_c c__law_drawn hr (aw_cons (ev 0) (aw_cons ew_int aw_nil))))) (sws_one (sw_ret (ew_sl (ew_op ow_add (ew_op ow_add (ew_ix (ev 4) (ev 1)) (ew_ix (ev 4) (ev 2))) (ew_ix (ev 4) (ev 3))) o0 (o1 (ev 5))))))))))
theorem c__law_letters (T : Tops mg) (c__law_drawn : CalW P w K mg base 1 "_law_drawn" 2 W__law_drawn) {f : Addr} {fd : FuncData} (F : Fun K "_law_letters" "_law_letters" s__law_letters f fd) (hm : mg "_law_letters" = some (.ref f)) (hb : Binds K fd ["feed"] []) : CalW P w K mg base 2 "_law_letters" 1 W__law_letters :=
  cal_ok F hm hb sc__law_letters rfl fun _ _ _ _ _ _ hr => ⟨w__law_letters, d__law_letters T c__law_drawn hr, v__law_letters⟩
abbrev s__law_word : Stmt := topS 21
abbrev N__law_word : List Str := ["feed", "letters", "longest", "size", "at"]
theorem sc__law_word : FnScope N__law_word ["feed", "letters", "longest"] (defScope s__law_word) := ⟨rfl, rfl, rfl, by decide +kernel, rfl, by decide +kernel, by decide +kernel⟩
theorem d__law_word (T : Tops mg) (c__law_drawn : CalW P w K mg base 1 "_law_drawn" 2 W__law_drawn) {f : Addr} {cdv : Value} {A : Around} {outer : List Env} {s : Shared} {H : Hp} {E : XK} (hr : Room 1 (A.deeper (envOfC "_law_word" (defScope s__law_word) s.heap.objs.size f cdv))) :
    SWs (cxOf CX0 P w K mg base N__law_word "_law_word" (defScope s__law_word) f cdv A outer s H E).nox (defBody s__law_word) w__law_word := by
  have nd : N__law_word.Nodup := sc__law_word.nd
  unfold w__law_word
  exact (sws_cons (sw_set (i := 3) nd (ew_c c__law_drawn hr (aw_cons (ev 0) (aw_cons (ew_op ow_add (ev 2) ew_int) aw_nil)))) (sws_one (sw_ret (ew_join (ew_str []) (ew_fz (ef_lc (T := (.one 4)) (own := [("at", 4)]) nd rfl (iw_range1 T.n_range (aw_cons (ev 3) aw_nil)) (blkOk_by rfl) (by decide) (fun _ _ _ _ _ => (pg_name (i := 4) nd rfl (.inl rfl))) (fun _ _ _ _ _ => tsw_nil) (fun _ _ _ _ _ => (ew_ix (ev 1) (ew_c c__law_drawn hr (aw_cons (ev 0) (aw_cons (ew_bi ca_len T.n_len (aw_cons (ev 1) aw_nil)) aw_nil)))))))))))
theorem c__law_word (T : Tops mg) (c__law_drawn : CalW P w K mg base 1 "_law_drawn" 2 W__law_drawn) {f : Addr} {fd : FuncData} (F : Fun K "_law_word" "_law_word" s__law_word f fd) (hm : mg "_law_word" = some (.ref f)) (hb : Binds K fd ["feed", "letters", "longest"] []) : CalW P w K mg base 2 "_law_word" 3 W__law_word :=
  cal_okW F hm hb sc__law_word rfl fun _ _ _ _ _ _ hr => ⟨w__law_word, d__law_word T c__law_drawn hr, v__law_word⟩
abbrev s__law_same : Stmt := topS 22
abbrev N__law_same : List Str := ["found", "due", "at"]
theorem sc__law_same : FnScope N__law_same ["found", "due"] (defScope s__law_same) := ⟨rfl, rfl, rfl, by decide +kernel, rfl, by decide +kernel, by decide +kernel⟩
theorem d__law_same0 (T : Tops mg)  {f : Addr} {cdv : Value} {A : Around} {outer : List Env} {s : Shared} {H : Hp} {E : XK} (hr : Room 0 (A.deeper (envOfC "_law_same" (defScope s__law_same) s.heap.objs.size f cdv))) :
    SWs (cxOf CX0 P w K mg base N__law_same "_law_same" (defScope s__law_same) f cdv A outer s H E).nox (defBody s__law_same) w__law_same0 := by
  have nd : N__law_same.Nodup := sc__law_same.nd
  unfold w__law_same0
  exact (sws_cons (sw_if (tw_val (ew_bi ca_isi T.n_isinstance (aw_cons (ev 1) (aw_cons (ew_tyname T.n_tuple) aw_nil)))) sws_never sws_nil) (sws_cons (sw_if (tw_cmp ow_is (ev 1) ew_non) (sws_one (sw_ret (ew_cmp ow_is (ev 0) ew_non))) sws_nil) (sws_cons (sw_if (tw_val (ew_bi ca_isi T.n_isinstance (aw_cons (ev 1) (aw_cons (ew_tyname T.n_bool) aw_nil)))) (sws_one (sw_ret (ew_and (ew_bi ca_isi T.n_isinstance (aw_cons (ev 0) (aw_cons (ew_tyname T.n_bool) aw_nil))) (ew_one (ew_cmp (ow_eq hr.units) (ev 0) (ev 1)))))) sws_nil) (sws_cons (sw_if (tw_val (ew_bi ca_isi T.n_isinstance (aw_cons (ev 1) (aw_cons (ew_tyname T.n_int) aw_nil)))) (sws_one (sw_ret (ew_and (ew_bi ca_isi T.n_isinstance (aw_cons (ev 0) (aw_cons (ew_tyname T.n_int) aw_nil))) (ew_and (ew_not (ew_bi ca_isi T.n_isinstance (aw_cons (ev 0) (aw_cons (ew_tyname T.n_bool) aw_nil)))) (ew_one (ew_cmp (ow_eq hr.units) (ev 0) (ev 1))))))) sws_nil) (sws_one (sw_ret (ew_and (ew_bi ca_isi T.n_isinstance (aw_cons (ev 0) (aw_cons (ew_tyname T.n_str) aw_nil))) (ew_one (ew_cmp (ow_eq hr.units) (ev 0) (ev 1))))))))))
theorem c__law_same0 (T : Tops mg)  {f : Addr} {fd : FuncData} (F : Fun K "_law_same" "_law_same" s__law_same f fd) (hm : mg "_law_same" = some (.ref f)) (hb : Binds K fd ["found", "due"] []) : CalW P w K mg base 1 "_law_same" 2 W__law_same0 :=
  cal_ok F hm hb sc__law_same rfl fun _ _ _ _ _ _ hr => ⟨w__law_same0, d__law_same0 T  hr, v__law_same0⟩
theorem d__law_same (T : Tops mg) (c__law_same0 : CalW P w K mg base 1 "_law_same" 2 W__law_same0) {f : Addr} {cdv : Value} {A : Around} {outer : List Env} {s : Shared} {H : Hp} {E : XK} (hr : Room 1 (A.deeper (envOfC "_law_same" (defScope s__law_same) s.heap.objs.size f cdv))) :
    SWs (cxOf CX0 P w K mg base N__law_same "_law_same" (defScope s__law_same) f cdv A outer s H E).nox (defBody s__law_same) w__law_same := by
  have nd : N__law_same.Nodup := sc__law_same.nd
  unfold w__law_same
  exact (sws_cons (sw_if (tw_val (ew_bi ca_isi T.n_isinstance (aw_cons (ev 1) (aw_cons (ew_tyname T.n_tuple) aw_nil)))) (sws_cons (sw_if (LW.tw (lw_or (tw_not (tw_val (ew_bi ca_isi T.n_isinstance (aw_cons (ev 0) (aw_cons (ew_tyname T.n_tuple) aw_nil))))) (lw_or1 (tw_cmp (ow_ne hr.units) (ew_bi ca_len T.n_len (aw_cons (ev 0) aw_nil)) (ew_bi ca_len T.n_len (aw_cons (ev 1) aw_nil)))))) (sws_one (sw_ret ew_bl)) sws_nil) (sws_one (sw_ret (ew_bi (ca_all rfl) T.n_all (aw_cons (ew_fz (ef_lc (T := (.one 2)) (own := [("at", 2)]) nd rfl (iw_range1 T.n_range (aw_cons (ew_bi ca_len T.n_len (aw_cons (ev 1) aw_nil)) aw_nil)) (blkOk_by rfl) (by decide) (fun _ _ _ _ _ => (pg_name (i := 2) nd rfl (.inl rfl))) (fun _ _ _ _ _ => tsw_nil) (fun _ _ _ _ _ => (ew_c c__law_same0 hr (aw_cons (ew_ix (ev 0) (ev 2)) (aw_cons (ew_ix (ev 1) (ev 2)) aw_nil)))))) aw_nil))))) sws_nil) (sws_cons (sw_if (tw_cmp ow_is (ev 1) ew_non) (sws_one (sw_ret (ew_cmp ow_is (ev 0) ew_non))) sws_nil) (sws_cons (sw_if (tw_val (ew_bi ca_isi T.n_isinstance (aw_cons (ev 1) (aw_cons (ew_tyname T.n_bool) aw_nil)))) (sws_one (sw_ret (ew_and (ew_bi ca_isi T.n_isinstance (aw_cons (ev 0) (aw_cons (ew_tyname T.n_bool) aw_nil))) (ew_one (ew_cmp (ow_eq hr.units) (ev 0) (ev 1)))))) sws_nil) (sws_cons (sw_if (tw_val (ew_bi ca_isi T.n_isinstance (aw_cons (ev 1) (aw_cons (ew_tyname T.n_int) aw_nil)))) (sws_one (sw_ret (ew_and (ew_bi ca_isi T.n_isinstance (aw_cons (ev 0) (aw_cons (ew_tyname T.n_int) aw_nil))) (ew_and (ew_not (ew_bi ca_isi T.n_isinstance (aw_cons (ev 0) (aw_cons (ew_tyname T.n_bool) aw_nil)))) (ew_one (ew_cmp (ow_eq hr.units) (ev 0) (ev 1))))))) sws_nil) (sws_one (sw_ret (ew_and (ew_bi ca_isi T.n_isinstance (aw_cons (ev 0) (aw_cons (ew_tyname T.n_str) aw_nil))) (ew_one (ew_cmp (ow_eq hr.units) (ev 0) (ev 1))))))))))
theorem c__law_same (T : Tops mg) (c__law_same0 : CalW P w K mg base 1 "_law_same" 2 W__law_same0) {f : Addr} {fd : FuncData} (F : Fun K "_law_same" "_law_same" s__law_same f fd) (hm : mg "_law_same" = some (.ref f)) (hb : Binds K fd ["found", "due"] []) : CalW P w K mg base 2 "_law_same" 2 W__law_same :=
  cal_ok F hm hb sc__law_same rfl fun _ _ _ _ _ _ hr => ⟨w__law_same, d__law_same T c__law_same0 hr, v__law_same⟩
abbrev s__law_end : Stmt := topS 23
abbrev N__law_end : List Str := ["start", "loop", "length", "word"]
theorem sc__law_end : FnScope N__law_end ["start", "loop", "length"] (defScope s__law_end) := ⟨rfl, rfl, rfl, by decide +kernel, rfl, by decide +kernel, by decide +kernel⟩
theorem d__law_end (T : Tops mg)  {f : Addr} {cdv : Value} {A : Around} {outer : List Env} {s : Shared} {H : Hp} {E : XK} (hr : Room 0 (A.deeper (envOfC "_law_end" (defScope s__law_end) s.heap.objs.size f cdv))) :
    SWs (cxOf CX0 P w K mg base N__law_end "_law_end" (defScope s__law_end) f cdv A outer s H E).nox (defBody s__law_end) w__law_end := by
  have nd : N__law_end.Nodup := sc__law_end.nd
  unfold w__law_end
  exact (sws_cons (sw_set (i := 3) nd (ev 0)) (sws_cons (sw_while PassesOwn.never (tw_cmp ow_lt (ew_bi ca_len T.n_len (aw_cons (ev 3) aw_nil)) (ev 2)) (sws_one (sw_set (i := 3) nd (ew_op ow_add (ev 3) (ev 1))))) (sws_one (sw_ret (ew_sl (ev 3) o0 (o1 (ev 2)))))))
theorem c__law_end (T : Tops mg)  {f : Addr} {fd : FuncData} (F : Fun K "_law_end" "_law_end" s__law_end f fd) (hm : mg "_law_end" = some (.ref f)) (hb : Binds K fd ["start", "loop", "length"] []) : CalW P w K mg base 1 "_law_end" 3 W__law_end :=
  cal_ok F hm hb sc__law_end rfl fun _ _ _ _ _ _ hr => ⟨w__law_end, d__law_end T  hr, v__law_end⟩
abbrev s__law_alike : Stmt := topS 24
abbrev N__law_alike : List Str := ["start", "loop", "value", "length"]
theorem sc__law_alike : FnScope N__law_alike ["start", "loop", "value"] (defScope s__law_alike) := ⟨rfl, rfl, rfl, by decide +kernel, rfl, by decide +kernel, by decide +kernel⟩
theorem d__law_alike (T : Tops mg) (c__law_end : CalW P w K mg base 1 "_law_end" 3 W__law_end) {f : Addr} {cdv : Value} {A : Around} {outer : List Env} {s : Shared} {H : Hp} {E : XK} (hr : Room 1 (A.deeper (envOfC "_law_alike" (defScope s__law_alike) s.heap.objs.size f cdv))) :
    SWs (cxOf CX0 P w K mg base N__law_alike "_law_alike" (defScope s__law_alike) f cdv A outer s H E).nox (defBody s__law_alike) w__law_alike := by
  have nd : N__law_alike.Nodup := sc__law_alike.nd
  unfold w__law_alike
  exact (sws_cons (sw_set (i := 3) nd (ew_op ow_add (ew_op ow_add (ew_op ow_add (ew_bi ca_len T.n_len (aw_cons (ev 0) aw_nil)) (ew_bi ca_len T.n_len (aw_cons (ev 1) aw_nil))) (ew_bi ca_len T.n_len (aw_cons (ew_ix (ev 2) ew_int) aw_nil))) (ew_bi ca_len T.n_len (aw_cons (ew_ix (ev 2) ew_int) aw_nil)))) (sws_one (sw_ret (ew_cmp (ow_eq hr.units) (ew_c c__law_end hr (aw_cons (ev 0) (aw_cons (ev 1) (aw_cons (ev 3) aw_nil)))) (ew_c c__law_end hr (aw_cons (ew_ix (ev 2) ew_int) (aw_cons (ew_ix (ev 2) ew_int) (aw_cons (ev 3) aw_nil))))))))
theorem c__law_alike (T : Tops mg) (c__law_end : CalW P w K mg base 1 "_law_end" 3 W__law_end) {f : Addr} {fd : FuncData} (F : Fun K "_law_alike" "_law_alike" s__law_alike f fd) (hm : mg "_law_alike" = some (.ref f)) (hb : Binds K fd ["start", "loop", "value"] []) : CalW P w K mg base 2 "_law_alike" 3 W__law_alike :=
  cal_ok F hm hb sc__law_alike rfl fun _ _ _ _ _ _ hr => ⟨w__law_alike, d__law_alike T c__law_end hr, v__law_alike⟩
abbrev s__law_is_least : Stmt := topS 25
abbrev N__law_is_least : List Str := ["start", "loop", "least", "far", "word", "period", "begin"]
theorem sc__law_is_least : FnScope N__law_is_least ["start", "loop", "least"] (defScope s__law_is_least) := ⟨rfl, rfl, rfl, by decide +kernel, rfl, by decide +kernel, by decide +kernel⟩
theorem d__law_is_least (T : Tops mg) (c__law_alike : CalW P w K mg base 2 "_law_alike" 3 W__law_alike) (c__law_end : CalW P w K mg base 1 "_law_end" 3 W__law_end) {f : Addr} {cdv : Value} {A : Around} {outer : List Env} {s : Shared} {H : Hp} {E : XK} (hr : Room 2 (A.deeper (envOfC "_law_is_least" (defScope s__law_is_least) s.heap.objs.size f cdv))) :
    SWs (cxOf CX0 P w K mg base N__law_is_least "_law_is_least" (defScope s__law_is_least) f cdv A outer s H E).nox (defBody s__law_is_least) w__law_is_least := by
  have nd : N__law_is_least.Nodup := sc__law_is_least.nd
  unfold w__law_is_least
  exact (sws_cons (sw_if (tw_not (tw_val (ew_c c__law_alike hr (aw_cons (ev 0) (aw_cons (ev 1) (aw_cons (ev 2) aw_nil)))))) (sws_one (sw_ret ew_bl)) sws_nil) (sws_cons (sw_set (i := 3) nd (ew_op ow_add (ew_bi ca_len T.n_len (aw_cons (ev 0) aw_nil)) (ew_op ow_mul ew_int (ew_bi ca_len T.n_len (aw_cons (ev 1) aw_nil))))) (sws_cons (sw_set (i := 4) nd (ew_c c__law_end hr (aw_cons (ev 0) (aw_cons (ev 1) (aw_cons (ew_op ow_add (ev 3) (ew_op ow_mul ew_int (ew_bi ca_len T.n_len (aw_cons (ev 1) aw_nil)))) aw_nil))))) (sws_cons (sw_for PassesOwn.never rfl (iw_range2 T.n_range (aw_cons ew_int (aw_cons (ew_op ow_add (ew_bi ca_len T.n_len (aw_cons (ew_ix (ev 2) ew_int) aw_nil)) ew_int) aw_nil))) (gw_name 5 nd) (sws_one (sw_for PassesOwn.never rfl (iw_range1 T.n_range (aw_cons (ew_op ow_add (ew_bi ca_len T.n_len (aw_cons (ev 0) aw_nil)) ew_int) aw_nil)) (gw_name 6 nd) (sws_cons (sw_if (LW.tw (lw_and (tw_cmp (ow_eq hr.units) (ev 5) (ew_bi ca_len T.n_len (aw_cons (ew_ix (ev 2) ew_int) aw_nil))) (lw_and1 (tw_cmp ow_ge (ev 6) (ew_bi ca_len T.n_len (aw_cons (ew_ix (ev 2) ew_int) aw_nil)))))) (sws_one sw_continue) sws_nil) (sws_one (sw_if (tw_val (ew_c c__law_alike hr (aw_cons (ev 0) (aw_cons (ev 1) (aw_cons (ew_tup (aw_cons (ew_sl (ev 4) o0 (o1 (ev 6))) (aw_cons (ew_sl (ev 4) (o1 (ev 6)) (o1 (ew_op ow_add (ev 6) (ev 5)))) aw_nil))) aw_nil))))) (sws_one (sw_ret ew_bl)) sws_nil)))))) (sws_one (sw_ret ew_bl))))))
theorem c__law_is_least (T : Tops mg) (c__law_alike : CalW P w K mg base 2 "_law_alike" 3 W__law_alike) (c__law_end : CalW P w K mg base 1 "_law_end" 3 W__law_end) {f : Addr} {fd : FuncData} (F : Fun K "_law_is_least" "_law_is_least" s__law_is_least f fd) (hm : mg "_law_is_least" = some (.ref f)) (hb : Binds K fd ["start", "loop", "least"] []) : CalW P w K mg base 3 "_law_is_least" 3 W__law_is_least :=
  cal_ok F hm hb sc__law_is_least rfl fun _ _ _ _ _ _ hr => ⟨w__law_is_least, d__law_is_least T c__law_alike c__law_end hr, v__law_is_least⟩
abbrev s_law : Stmt := topS 26
abbrev N_law : List Str := ["script", "feed", "letters", "start", "loop", "least", "turn", "shift", "value", "due", "odd"]
theorem sc_law : FnScope N_law ["script"] (defScope s_law) := ⟨rfl, rfl, rfl, by decide +kernel, rfl, by decide +kernel, by decide +kernel⟩
theorem d_law (T : Tops mg) (k_is_round : CalK P w K mg base 4 "is_round" 3 1 ["value"] W_is_round) (c_least_round : CalW P w K mg base 4 "least_round" 3 W_least_round) (c__law_same : CalW P w K mg base 2 "_law_same" 2 W__law_same) (c_is_round : CalW P w K mg base 4 "is_round" 4 W_is_round) (c__law_alike : CalW P w K mg base 2 "_law_alike" 3 W__law_alike) (c__law_drawn : CalW P w K mg base 1 "_law_drawn" 2 W__law_drawn) (c__law_word : CalW P w K mg base 2 "_law_word" 3 W__law_word) (c__law_is_least : CalW P w K mg base 3 "_law_is_least" 3 W__law_is_least) (c__law_letters : CalW P w K mg base 2 "_law_letters" 1 W__law_letters) (c__law_feed : CalW P w K mg base 1 "_law_feed" 1 W__law_feed) {f : Addr} {cdv : Value} {A : Around} {outer : List Env} {s : Shared} {H : Hp} {E : XK} (hr : Room 4 (A.deeper (envOfC "law" (defScope s_law) s.heap.objs.size f cdv))) :
    SWs0 (cxOf CX0 P w K mg base N_law "law" (defScope s_law) f cdv A outer s H E).nox (defBody s_law) w_law := by
  have nd : N_law.Nodup := sc_law.nd
  unfold w_law w_law_s1 w_law_s2 w_law_s3 w_law_s4 w_law_s5 w_law_s6 w_law_s7 w_law_s8 w_law_turn w_law_if w_law_due w_law_s9 w_law_odd w_law_s10
  exact (sws0_cons (sw_setF (i := 1) nd (ef_c c__law_feed hr (aw_cons (ev 0) aw_nil))) (sws0_res 1 2 200 (sws_cons (sw_set (i := 2) nd (ew_c c__law_letters hr (aw_cons (ev 1) aw_nil))) (sws_cons (sw_set (i := 3) nd (ew_c c__law_word hr (aw_cons (ev 1) (aw_cons (ev 2) (aw_cons ew_int aw_nil))))) (sws_cons (sw_set (i := 4) nd (ew_op ow_add (ew_ix (ev 2) (ew_c c__law_drawn hr (aw_cons (ev 1) (aw_cons (ew_bi ca_len T.n_len (aw_cons (ev 2) aw_nil)) aw_nil)))) (ew_c c__law_word hr (aw_cons (ev 1) (aw_cons (ev 2) (aw_cons ew_int aw_nil)))))) (sws_cons (sw_set (i := 4) nd (ew_op ow_mul (ev 4) (ew_ix (ew_fz (ef_lst (aw_cons ew_int (aw_cons ew_int (aw_cons ew_int (aw_cons ew_int aw_nil)))))) (ew_c c__law_drawn hr (aw_cons (ev 1) (aw_cons ew_int aw_nil)))))) (sws_cons (sw_set (i := 5) nd (ew_c c_least_round hr (aw_cons (ev 2) (aw_cons (ev 3) (aw_cons (ev 4) aw_nil))))) (sws_cons (sw_if (LW.tw (lw_or (tw_not (tw_val (ew_bi ca_isi T.n_isinstance (aw_cons (ev 5) (aw_cons (ew_tyname T.n_tuple) aw_nil))))) (lw_or (tw_cmp (ow_ne hr.units) (ew_bi ca_len T.n_len (aw_cons (ev 5) aw_nil)) ew_int) (lw_or1 (tw_not (tw_val (ew_c c__law_same hr (aw_cons (ev 5) (aw_cons (ew_tup (aw_cons (ew_ty ca_str T.n_str (aw_cons (ew_ix (ev 5) ew_int) aw_nil)) (aw_cons (ew_ty ca_str T.n_str (aw_cons (ew_ix (ev 5) ew_int) aw_nil)) aw_nil))) aw_nil))))))))) (sws_one (sw_ret ew_bl)) sws_nil) (sws_cons (sw_if (LW.tw (lw_or (tw_cmp (ow_eq hr.units) (ew_ix (ev 5) ew_int) (ew_str [])) (lw_or1 (tw_not (tw_val (ew_c c__law_is_least hr (aw_cons (ev 3) (aw_cons (ev 4) (aw_cons (ev 5) aw_nil))))))))) (sws_one (sw_ret ew_bl)) sws_nil) (sws_cons (sw_for PassesOwn.never rfl (iw_range1 T.n_range (aw_cons (ew_op ow_add ew_int (ew_bi ca_len T.n_len (aw_cons (ew_fz (ef_sl (ev 0) o0 (o1 ew_int))) aw_nil))) aw_nil)) (gw_name 6 nd) (sws_forget [6, 7, 8, 9] (sws_cons (sw_set (i := 7) nd (ew_c c__law_drawn hr (aw_cons (ev 1) (aw_cons (ew_op ow_add (ew_bi ca_len T.n_len (aw_cons (ev 4) aw_nil)) ew_int) aw_nil)))) (sws_cons (sw_set (i := 8) nd (ew_tup (aw_cons (ew_op ow_add (ev 3) (ew_sl (ev 4) o0 (o1 (ev 7)))) (aw_cons (ew_op ow_mul (ew_op ow_add (ew_sl (ev 4) (o1 (ev 7)) o0) (ew_sl (ev 4) o0 (o1 (ev 7)))) (ew_op ow_add ew_int (ew_c c__law_drawn hr (aw_cons (ev 1) (aw_cons ew_int aw_nil))))) aw_nil)))) (sws_cons (sw_if (tw_cmp (ow_eq hr.units) (ew_c c__law_drawn hr (aw_cons (ev 1) (aw_cons ew_int aw_nil))) ew_int) (sws_one (sw_set (i := 8) nd (ew_tup (aw_cons (ew_c c__law_word hr (aw_cons (ev 1) (aw_cons (ev 2) (aw_cons ew_int aw_nil)))) (aw_cons (ew_op ow_add (ew_ix (ev 2) (ew_c c__law_drawn hr (aw_cons (ev 1) (aw_cons (ew_bi ca_len T.n_len (aw_cons (ev 2) aw_nil)) aw_nil)))) (ew_c c__law_word hr (aw_cons (ev 1) (aw_cons (ev 2) (aw_cons ew_int aw_nil))))) aw_nil))))) sws_nil) (sws_cons (sw_set (i := 9) nd (ew_c c__law_alike hr (aw_cons (ev 3) (aw_cons (ev 4) (aw_cons (ev 8) aw_nil))))) (sws_cons (sw_if (tw_not (tw_val (ew_c c__law_same hr (aw_cons (ew_c c_is_round hr (aw_cons (ev 2) (aw_cons (ev 3) (aw_cons (ev 4) (aw_cons (ev 8) aw_nil))))) (aw_cons (ev 9) aw_nil))))) (sws_one (sw_ret ew_bl)) sws_nil) (sws_one (sw_if (tw_cmp (ow_ne hr.units) (ev 9) (ew_c c__law_same hr (aw_cons (ew_c c_least_round hr (aw_cons (ev 2) (aw_cons (ew_ix (ev 8) ew_int) (aw_cons (ew_ix (ev 8) ew_int) aw_nil)))) (aw_cons (ev 5) aw_nil)))) (sws_one (sw_ret ew_bl)) sws_nil))))))))) (sws_forget [6, 7, 8, 9] (sws_cons (sw_set (i := 10) nd (ew_fz (ef_lst (aw_cons ew_non (aw_cons ew_int (aw_cons (ew_str []) (aw_cons (ew_tup (aw_cons (ev 3) aw_nil)) (aw_cons (ew_tup (aw_cons (ev 3) (aw_cons (ew_str []) aw_nil))) (aw_cons (ew_fz (ef_lst (aw_cons (ev 3) (aw_cons (ev 4) aw_nil)))) (aw_cons (ew_tup (aw_cons (ev 3) (aw_cons (ev 4) (aw_cons (ew_str []) aw_nil)))) (aw_cons (ew_tup (aw_cons (ev 3) (aw_cons (ew_str [65]) aw_nil))) (aw_cons (ew_tup (aw_cons ew_non (aw_cons (ev 4) aw_nil))) (aw_cons (ew_tup (aw_cons (ev 3) (aw_cons ew_int aw_nil))) aw_nil))))))))))))) (sws_one (sw_ret (ew_bi (ca_all rfl) T.n_all (aw_cons (ew_fz (ef_lc (T := (.one 8)) (own := [("value", 8)]) nd rfl (iw_any (ev 10)) (blkOk_by rfl) (by decide) (fun _ _ _ _ _ => (pg_name (i := 8) nd rfl (.inl rfl))) (fun _ _ _ _ _ => tsw_nil) (fun _ _ _ _ _ => (ew_cmp ow_is (ew_ck k_is_round hr (aw_cons (ev 2) (aw_cons (ev 3) (aw_cons (ev 4) aw_nil))) (kw_cons (ev 8) kw_nil)) ew_bl)))) aw_nil))))))))))))))))
theorem c_law (T : Tops mg) (k_is_round : CalK P w K mg base 4 "is_round" 3 1 ["value"] W_is_round) (c_least_round : CalW P w K mg base 4 "least_round" 3 W_least_round) (c__law_same : CalW P w K mg base 2 "_law_same" 2 W__law_same) (c_is_round : CalW P w K mg base 4 "is_round" 4 W_is_round) (c__law_alike : CalW P w K mg base 2 "_law_alike" 3 W__law_alike) (c__law_drawn : CalW P w K mg base 1 "_law_drawn" 2 W__law_drawn) (c__law_word : CalW P w K mg base 2 "_law_word" 3 W__law_word) (c__law_is_least : CalW P w K mg base 3 "_law_is_least" 3 W__law_is_least) (c__law_letters : CalW P w K mg base 2 "_law_letters" 1 W__law_letters) (c__law_feed : CalW P w K mg base 1 "_law_feed" 1 W__law_feed) {f : Addr} {fd : FuncData} (F : Fun K "law" "law" s_law f fd) : FnOk P w K mg base CX0 5 f fd ["script"] (spLaw K) :=
  law_ok F sc_law fun _ _ _ _ _ _ hr => ⟨w_law, d_law T k_is_round c_least_round c__law_same c_is_round c__law_alike c__law_drawn c__law_word c__law_is_least c__law_letters c__law_feed hr, v_law⟩
theorem k_is_round (T : Tops mg) (c_spelled_out : CalW P w K mg base 1 "spelled_out" 3 W_spelled_out) (c_is_word : CalW P w K mg base 1 "is_word" 2 W_is_word) (c_check_round : CalW P w K mg base 2 "check_round" 3 W_check_round) (c_check_alphabet : CalW P w K mg base 3 "check_alphabet" 1 W_check_alphabet) {f : Addr} {fd : FuncData} (F : Fun K "is_round" "is_round" s_is_round f fd) (hm : mg "is_round" = some (.ref f)) (hb : KBinds K fd ["letters", "start", "loop", "value"] ["value"] (gApp 3 1) (gApp 3 1)) : CalK P w K mg base 4 "is_round" 3 1 ["value"] W_is_round :=
  calk_ok F hm hb sc_is_round rfl fun _ _ _ _ _ _ hr => ⟨w_is_round, d_is_round T c_spelled_out c_is_word c_check_round c_check_alphabet hr, v_is_round⟩
end
theorem all_mk {l : PySem.W.OpenLaw} {w : World} {K : PySem.W.Frag} {h : Heap} {mg : Str → Option Value} {fa : Addr} (X : K.In h) (G : h.Ns mainGlobals mg) (hfa : mg "law" = some (.ref fa))
    {f0 : Addr} {od0 an0 : Option Addr} {sl0 : Array (Option Value)} {oc0 kV0 dc0 pm0 cd0 ct0 : Value} (a0 : PySem.W.nsIn K mainGlobals "is_ascending" = some (some (.ref f0)))
    (l0 : K.lookup f0 = some ⟨oc0, od0, .func (PySem.W.fnOf "is_ascending" "is_ascending" (defArgs s_is_ascending) (defBody s_is_ascending) (defScope s_is_ascending) .none kV0 dc0 pm0 an0 cd0 ct0), sl0⟩) (c0 : PySem.W.codeIn K cd0 "is_ascending" = true) (k0 : PySem.W.keepIn K (.ref f0) = true)
    {f1 : Addr} {od1 an1 : Option Addr} {sl1 : Array (Option Value)} {oc1 kV1 dc1 pm1 cd1 ct1 : Value} (a1 : PySem.W.nsIn K mainGlobals "is_letter" = some (some (.ref f1)))
    (l1 : K.lookup f1 = some ⟨oc1, od1, .func (PySem.W.fnOf "is_letter" "is_letter" (defArgs s_is_letter) (defBody s_is_letter) (defScope s_is_letter) .none kV1 dc1 pm1 an1 cd1 ct1), sl1⟩) (c1 : PySem.W.codeIn K cd1 "is_letter" = true) (k1 : PySem.W.keepIn K (.ref f1) = true)
    {f2 : Addr} {od2 an2 : Option Addr} {sl2 : Array (Option Value)} {oc2 kV2 dc2 pm2 cd2 ct2 : Value} (a2 : PySem.W.nsIn K mainGlobals "is_alphabet" = some (some (.ref f2)))
    (l2 : K.lookup f2 = some ⟨oc2, od2, .func (PySem.W.fnOf "is_alphabet" "is_alphabet" (defArgs s_is_alphabet) (defBody s_is_alphabet) (defScope s_is_alphabet) .none kV2 dc2 pm2 an2 cd2 ct2), sl2⟩) (c2 : PySem.W.codeIn K cd2 "is_alphabet" = true) (k2 : PySem.W.keepIn K (.ref f2) = true)
    {f3 : Addr} {od3 an3 : Option Addr} {sl3 : Array (Option Value)} {oc3 kV3 dc3 pm3 cd3 ct3 : Value} (a3 : PySem.W.nsIn K mainGlobals "is_word" = some (some (.ref f3)))
    (l3 : K.lookup f3 = some ⟨oc3, od3, .func (PySem.W.fnOf "is_word" "is_word" (defArgs s_is_word) (defBody s_is_word) (defScope s_is_word) .none kV3 dc3 pm3 an3 cd3 ct3), sl3⟩) (c3 : PySem.W.codeIn K cd3 "is_word" = true) (k3 : PySem.W.keepIn K (.ref f3) = true)
    {f4 : Addr} {od4 an4 : Option Addr} {sl4 : Array (Option Value)} {oc4 kV4 dc4 pm4 cd4 ct4 : Value} (a4 : PySem.W.nsIn K mainGlobals "check_alphabet" = some (some (.ref f4)))
    (l4 : K.lookup f4 = some ⟨oc4, od4, .func (PySem.W.fnOf "check_alphabet" "check_alphabet" (defArgs s_check_alphabet) (defBody s_check_alphabet) (defScope s_check_alphabet) .none kV4 dc4 pm4 an4 cd4 ct4), sl4⟩) (c4 : PySem.W.codeIn K cd4 "check_alphabet" = true) (k4 : PySem.W.keepIn K (.ref f4) = true)
    {f5 : Addr} {od5 an5 : Option Addr} {sl5 : Array (Option Value)} {oc5 kV5 dc5 pm5 cd5 ct5 : Value} (a5 : PySem.W.nsIn K mainGlobals "check_round" = some (some (.ref f5)))
    (l5 : K.lookup f5 = some ⟨oc5, od5, .func (PySem.W.fnOf "check_round" "check_round" (defArgs s_check_round) (defBody s_check_round) (defScope s_check_round) .none kV5 dc5 pm5 an5 cd5 ct5), sl5⟩) (c5 : PySem.W.codeIn K cd5 "check_round" = true) (k5 : PySem.W.keepIn K (.ref f5) = true)
    {f6 : Addr} {od6 an6 : Option Addr} {sl6 : Array (Option Value)} {oc6 kV6 dc6 pm6 cd6 ct6 : Value} (a6 : PySem.W.nsIn K mainGlobals "spelled_out" = some (some (.ref f6)))
    (l6 : K.lookup f6 = some ⟨oc6, od6, .func (PySem.W.fnOf "spelled_out" "spelled_out" (defArgs s_spelled_out) (defBody s_spelled_out) (defScope s_spelled_out) .none kV6 dc6 pm6 an6 cd6 ct6), sl6⟩) (c6 : PySem.W.codeIn K cd6 "spelled_out" = true) (k6 : PySem.W.keepIn K (.ref f6) = true)
    {f7 : Addr} {od7 an7 : Option Addr} {sl7 : Array (Option Value)} {oc7 kV7 dc7 pm7 cd7 ct7 : Value} (a7 : PySem.W.nsIn K mainGlobals "is_round" = some (some (.ref f7)))
    (l7 : K.lookup f7 = some ⟨oc7, od7, .func (PySem.W.fnOf "is_round" "is_round" (defArgs s_is_round) (defBody s_is_round) (defScope s_is_round) .none kV7 dc7 pm7 an7 cd7 ct7), sl7⟩) (c7 : PySem.W.codeIn K cd7 "is_round" = true) (k7 : PySem.W.keepIn K (.ref f7) = true)
    {f8 : Addr} {od8 an8 : Option Addr} {sl8 : Array (Option Value)} {oc8 kV8 dc8 pm8 cd8 ct8 : Value} (a8 : PySem.W.nsIn K mainGlobals "least_round" = some (some (.ref f8)))
    (l8 : K.lookup f8 = some ⟨oc8, od8, .func (PySem.W.fnOf "least_round" "least_round" (defArgs s_least_round) (defBody s_least_round) (defScope s_least_round) .none kV8 dc8 pm8 an8 cd8 ct8), sl8⟩) (c8 : PySem.W.codeIn K cd8 "least_round" = true) (k8 : PySem.W.keepIn K (.ref f8) = true)
    {f9 : Addr} {od9 an9 : Option Addr} {sl9 : Array (Option Value)} {oc9 kV9 dc9 pm9 cd9 ct9 : Value} (a9 : PySem.W.nsIn K mainGlobals "_law_feed" = some (some (.ref f9)))
    (l9 : K.lookup f9 = some ⟨oc9, od9, .func (PySem.W.fnOf "_law_feed" "_law_feed" (defArgs s__law_feed) (defBody s__law_feed) (defScope s__law_feed) .none kV9 dc9 pm9 an9 cd9 ct9), sl9⟩) (c9 : PySem.W.codeIn K cd9 "_law_feed" = true) (k9 : PySem.W.keepIn K (.ref f9) = true)
    {f10 : Addr} {od10 an10 : Option Addr} {sl10 : Array (Option Value)} {oc10 kV10 dc10 pm10 cd10 ct10 : Value} (a10 : PySem.W.nsIn K mainGlobals "_law_drawn" = some (some (.ref f10)))
    (l10 : K.lookup f10 = some ⟨oc10, od10, .func (PySem.W.fnOf "_law_drawn" "_law_drawn" (defArgs s__law_drawn) (defBody s__law_drawn) (defScope s__law_drawn) .none kV10 dc10 pm10 an10 cd10 ct10), sl10⟩) (c10 : PySem.W.codeIn K cd10 "_law_drawn" = true) (k10 : PySem.W.keepIn K (.ref f10) = true)
    {f11 : Addr} {od11 an11 : Option Addr} {sl11 : Array (Option Value)} {oc11 kV11 dc11 pm11 cd11 ct11 : Value} (a11 : PySem.W.nsIn K mainGlobals "_law_letters" = some (some (.ref f11)))
    (l11 : K.lookup f11 = some ⟨oc11, od11, .func (PySem.W.fnOf "_law_letters" "_law_letters" (defArgs s__law_letters) (defBody s__law_letters) (defScope s__law_letters) .none kV11 dc11 pm11 an11 cd11 ct11), sl11⟩) (c11 : PySem.W.codeIn K cd11 "_law_letters" = true) (k11 : PySem.W.keepIn K (.ref f11) = true)
    {f12 : Addr} {od12 an12 : Option Addr} {sl12 : Array (Option Value)} {oc12 kV12 dc12 pm12 cd12 ct12 : Value} (a12 : PySem.W.nsIn K mainGlobals "_law_word" = some (some (.ref f12)))
    (l12 : K.lookup f12 = some ⟨oc12, od12, .func (PySem.W.fnOf "_law_word" "_law_word" (defArgs s__law_word) (defBody s__law_word) (defScope s__law_word) .none kV12 dc12 pm12 an12 cd12 ct12), sl12⟩) (c12 : PySem.W.codeIn K cd12 "_law_word" = true) (k12 : PySem.W.keepIn K (.ref f12) = true)
    {f13 : Addr} {od13 an13 : Option Addr} {sl13 : Array (Option Value)} {oc13 kV13 dc13 pm13 cd13 ct13 : Value} (a13 : PySem.W.nsIn K mainGlobals "_law_same" = some (some (.ref f13)))
    (l13 : K.lookup f13 = some ⟨oc13, od13, .func (PySem.W.fnOf "_law_same" "_law_same" (defArgs s__law_same) (defBody s__law_same) (defScope s__law_same) .none kV13 dc13 pm13 an13 cd13 ct13), sl13⟩) (c13 : PySem.W.codeIn K cd13 "_law_same" = true) (k13 : PySem.W.keepIn K (.ref f13) = true)
    {f14 : Addr} {od14 an14 : Option Addr} {sl14 : Array (Option Value)} {oc14 kV14 dc14 pm14 cd14 ct14 : Value} (a14 : PySem.W.nsIn K mainGlobals "_law_end" = some (some (.ref f14)))
    (l14 : K.lookup f14 = some ⟨oc14, od14, .func (PySem.W.fnOf "_law_end" "_law_end" (defArgs s__law_end) (defBody s__law_end) (defScope s__law_end) .none kV14 dc14 pm14 an14 cd14 ct14), sl14⟩) (c14 : PySem.W.codeIn K cd14 "_law_end" = true) (k14 : PySem.W.keepIn K (.ref f14) = true)
    {f15 : Addr} {od15 an15 : Option Addr} {sl15 : Array (Option Value)} {oc15 kV15 dc15 pm15 cd15 ct15 : Value} (a15 : PySem.W.nsIn K mainGlobals "_law_alike" = some (some (.ref f15)))
    (l15 : K.lookup f15 = some ⟨oc15, od15, .func (PySem.W.fnOf "_law_alike" "_law_alike" (defArgs s__law_alike) (defBody s__law_alike) (defScope s__law_alike) .none kV15 dc15 pm15 an15 cd15 ct15), sl15⟩) (c15 : PySem.W.codeIn K cd15 "_law_alike" = true) (k15 : PySem.W.keepIn K (.ref f15) = true)
    {f16 : Addr} {od16 an16 : Option Addr} {sl16 : Array (Option Value)} {oc16 kV16 dc16 pm16 cd16 ct16 : Value} (a16 : PySem.W.nsIn K mainGlobals "_law_is_least" = some (some (.ref f16)))
    (l16 : K.lookup f16 = some ⟨oc16, od16, .func (PySem.W.fnOf "_law_is_least" "_law_is_least" (defArgs s__law_is_least) (defBody s__law_is_least) (defScope s__law_is_least) .none kV16 dc16 pm16 an16 cd16 ct16), sl16⟩) (c16 : PySem.W.codeIn K cd16 "_law_is_least" = true) (k16 : PySem.W.keepIn K (.ref f16) = true)
    {f17 : Addr} {od17 an17 : Option Addr} {sl17 : Array (Option Value)} {oc17 kV17 dc17 pm17 cd17 ct17 : Value} (a17 : PySem.W.nsIn K mainGlobals "law" = some (some (.ref f17)))
    (l17 : K.lookup f17 = some ⟨oc17, od17, .func (PySem.W.fnOf "law" "law" (defArgs s_law) (defBody s_law) (defScope s_law) .none kV17 dc17 pm17 an17 cd17 ct17), sl17⟩) (c17 : PySem.W.codeIn K cd17 "law" = true) (k17 : PySem.W.keepIn K (.ref f17) = true)
    (z_all : PySem.W.nsIn K mainGlobals "all" = some none)
    (z_bool : PySem.W.nsIn K mainGlobals "bool" = some none)
    (z_int : PySem.W.nsIn K mainGlobals "int" = some none)
    (z_isinstance : PySem.W.nsIn K mainGlobals "isinstance" = some none)
    (z_len : PySem.W.nsIn K mainGlobals "len" = some none)
    (z_list : PySem.W.nsIn K mainGlobals "list" = some none)
    (z_max : PySem.W.nsIn K mainGlobals "max" = some none)
    (z_range : PySem.W.nsIn K mainGlobals "range" = some none)
    (z_str : PySem.W.nsIn K mainGlobals "str" = some none)
    (z_tuple : PySem.W.nsIn K mainGlobals "tuple" = some none)
    (z_zip : PySem.W.nsIn K mainGlobals "zip" = some none)
    {t_LETTERS : Tok} (g_LETTERS : PySem.W.nsIn K mainGlobals "LETTERS" = some (some (.str ⟨List.toArray [97, 98, 99, 100, 101, 102, 103, 104, 105, 106, 107, 108, 109, 110, 111, 112, 113, 114, 115, 116, 117, 118, 119, 120, 121, 122]⟩ t_LETTERS)))
    {t_MOST_LETTERS : Tok} (g_MOST_LETTERS : PySem.W.nsIn K mainGlobals "MOST_LETTERS" = some (some (.int 3 t_MOST_LETTERS)))
    : ∃ fd : FuncData, (∀ (s : Shared) (v : Value), BindsTo s fd ⟨[v], []⟩ [("script", v)]) ∧ ∀ base : Heap, K.In base → base.Ns mainGlobals mg → FnOk l.prog w K mg base CX0 5 fa fd ["script"] (spLaw K) := by
  have e := hfa.symm.trans (PySem.W.mg_of X G a17)
  cases e
  have T : Tops mg := ⟨PySem.W.mg_none_of X G z_all, PySem.W.mg_none_of X G z_bool, PySem.W.mg_none_of X G z_int, PySem.W.mg_none_of X G z_isinstance, PySem.W.mg_none_of X G z_len, PySem.W.mg_none_of X G z_list, PySem.W.mg_none_of X G z_max, PySem.W.mg_none_of X G z_range, PySem.W.mg_none_of X G z_str, PySem.W.mg_none_of X G z_tuple, PySem.W.mg_none_of X G z_zip, ⟨_, PySem.W.mg_of X G g_LETTERS⟩, ⟨_, PySem.W.mg_of X G g_MOST_LETTERS⟩⟩
  refine ⟨PySem.W.fnOf "law" "law" (defArgs s_law) (defBody s_law) (defScope s_law) .none kV17 dc17 pm17 an17 cd17 ct17, fun s v => .of_eq rfl, fun base _ _ => ?_⟩
  have F0 := fun_mk (st := s_is_ascending) l0 c0 k0
  have F1 := fun_mk (st := s_is_letter) l1 c1 k1
  have F2 := fun_mk (st := s_is_alphabet) l2 c2 k2
  have F3 := fun_mk (st := s_is_word) l3 c3 k3
  have F4 := fun_mk (st := s_check_alphabet) l4 c4 k4
  have F5 := fun_mk (st := s_check_round) l5 c5 k5
  have F6 := fun_mk (st := s_spelled_out) l6 c6 k6
  have F7 := fun_mk (st := s_is_round) l7 c7 k7
  have F8 := fun_mk (st := s_least_round) l8 c8 k8
  have F9 := fun_mk (st := s__law_feed) l9 c9 k9
  have F10 := fun_mk (st := s__law_drawn) l10 c10 k10
  have F11 := fun_mk (st := s__law_letters) l11 c11 k11
  have F12 := fun_mk (st := s__law_word) l12 c12 k12
  have F13 := fun_mk (st := s__law_same) l13 c13 k13
  have F14 := fun_mk (st := s__law_end) l14 c14 k14
  have F15 := fun_mk (st := s__law_alike) l15 c15 k15
  have F16 := fun_mk (st := s__law_is_least) l16 c16 k16
  have F17 := fun_mk (st := s_law) l17 c17 k17
  have c_is_ascending := c_is_ascending (P := l.prog) (w := w) (base := base) T  F0 (PySem.W.mg_of X G a0) (F0.binds (ps := ["row"]) fun _ _ _ _ _ _ us hl => match us, hl with | [_], _ => rfl)
  have c_is_letter := c_is_letter (P := l.prog) (w := w) (base := base) T  F1 (PySem.W.mg_of X G a1) (F1.binds (ps := ["value"]) fun _ _ _ _ _ _ us hl => match us, hl with | [_], _ => rfl)
  have c_is_alphabet := c_is_alphabet (P := l.prog) (w := w) (base := base) T c_is_letter c_is_ascending F2 (PySem.W.mg_of X G a2) (F2.binds (ps := ["value"]) fun _ _ _ _ _ _ us hl => match us, hl with | [_], _ => rfl)
  have c_is_word := c_is_word (P := l.prog) (w := w) (base := base) T  F3 (PySem.W.mg_of X G a3) (F3.binds (ps := ["letters", "value"]) fun _ _ _ _ _ _ us hl => match us, hl with | [_, _], _ => rfl)
  have c_check_alphabet := c_check_alphabet (P := l.prog) (w := w) (base := base) T c_is_alphabet F4 (PySem.W.mg_of X G a4) (F4.binds (ps := ["letters"]) fun _ _ _ _ _ _ us hl => match us, hl with | [_], _ => rfl)
  have c_check_round := c_check_round (P := l.prog) (w := w) (base := base) T c_is_word F5 (PySem.W.mg_of X G a5) (F5.binds (ps := ["letters", "start", "loop"]) fun _ _ _ _ _ _ us hl => match us, hl with | [_, _, _], _ => rfl)
  have c_spelled_out := c_spelled_out (P := l.prog) (w := w) (base := base) T  F6 (PySem.W.mg_of X G a6) (F6.binds (ps := ["start", "loop", "length"]) fun _ _ _ _ _ _ us hl => match us, hl with | [_, _, _], _ => rfl)
  have c_is_round := c_is_round (P := l.prog) (w := w) (base := base) T c_spelled_out c_is_word c_check_round c_check_alphabet F7 (PySem.W.mg_of X G a7) (F7.binds (ps := ["letters", "start", "loop", "value"]) fun _ _ _ _ _ _ us hl => match us, hl with | [_, _, _, _], _ => rfl)
  have k_is_round := k_is_round (P := l.prog) (w := w) (base := base) T c_spelled_out c_is_word c_check_round c_check_alphabet F7 (PySem.W.mg_of X G a7) (KBinds.gApp (n := 3) (m := 1) (ks := ["value"]) (by simp) fun us ws h1 h2 => match us, ws, h1, h2 with | [_, _, _], [_], _, _ => rfl)
  have c_least_round := c_least_round (P := l.prog) (w := w) (base := base) T c_check_round c_check_alphabet F8 (PySem.W.mg_of X G a8) (F8.binds (ps := ["letters", "start", "loop"]) fun _ _ _ _ _ _ us hl => match us, hl with | [_, _, _], _ => rfl)
  have c__law_feed := c__law_feed (P := l.prog) (w := w) (base := base) T  F9 (PySem.W.mg_of X G a9) (F9.binds (ps := ["script"]) fun _ _ _ _ _ _ us hl => match us, hl with | [_], _ => rfl)
  have c__law_drawn := c__law_drawn (P := l.prog) (w := w) (base := base) T  F10 (PySem.W.mg_of X G a10) (F10.binds (ps := ["feed", "many"]) fun _ _ _ _ _ _ us hl => match us, hl with | [_, _], _ => rfl)
  have c__law_letters := c__law_letters (P := l.prog) (w := w) (base := base) T c__law_drawn F11 (PySem.W.mg_of X G a11) (F11.binds (ps := ["feed"]) fun _ _ _ _ _ _ us hl => match us, hl with | [_], _ => rfl)
  have c__law_word := c__law_word (P := l.prog) (w := w) (base := base) T c__law_drawn F12 (PySem.W.mg_of X G a12) (F12.binds (ps := ["feed", "letters", "longest"]) fun _ _ _ _ _ _ us hl => match us, hl with | [_, _, _], _ => rfl)
  have c__law_same0 := c__law_same0 (P := l.prog) (w := w) (base := base) T  F13 (PySem.W.mg_of X G a13) (F13.binds (ps := ["found", "due"]) fun _ _ _ _ _ _ us hl => match us, hl with | [_, _], _ => rfl)
  have c__law_same := c__law_same (P := l.prog) (w := w) (base := base) T c__law_same0 F13 (PySem.W.mg_of X G a13) (F13.binds (ps := ["found", "due"]) fun _ _ _ _ _ _ us hl => match us, hl with | [_, _], _ => rfl)
  have c__law_end := c__law_end (P := l.prog) (w := w) (base := base) T  F14 (PySem.W.mg_of X G a14) (F14.binds (ps := ["start", "loop", "length"]) fun _ _ _ _ _ _ us hl => match us, hl with | [_, _, _], _ => rfl)
  have c__law_alike := c__law_alike (P := l.prog) (w := w) (base := base) T c__law_end F15 (PySem.W.mg_of X G a15) (F15.binds (ps := ["start", "loop", "value"]) fun _ _ _ _ _ _ us hl => match us, hl with | [_, _, _], _ => rfl)
  have c__law_is_least := c__law_is_least (P := l.prog) (w := w) (base := base) T c__law_alike c__law_end F16 (PySem.W.mg_of X G a16) (F16.binds (ps := ["start", "loop", "least"]) fun _ _ _ _ _ _ us hl => match us, hl with | [_, _, _], _ => rfl)
  exact c_law T k_is_round c_least_round c__law_same c_is_round c__law_alike c__law_drawn c__law_word c__law_is_least c__law_letters c__law_feed F17
end T73
open PySem PySem.W PyProof.Rows
set_option maxHeartbeats 0 in
theorem PySem.Challenge.cw_wholekinds_k73_whole_rounds_of_one_word_holds : PySem.Challenge.rw_wholekinds_k73_whole_rounds_of_one_word.Holds := by
  w_on; o_law; k_head; (case hw => w_witness2)
  k_fill
  refine L2.walk_of (l := PySem.Challenge.rw_wholekinds_k73_whole_rounds_of_one_word) (n := 63) (k := 5) (x := "script") (CX := fun _ => L2.CX0) (sp := fun w => NL.spLaw _) rfl (by decide) rfl ⟨rfl, by decide, by decide⟩ (fun w h Y => PySem.W.kIn_of Y) ?F (fun _ _ a ns hl _ hS => ⟨a, ns, rfl, hS, hl, fun _ => rfl⟩) (fun _ _ _ _ _ h => h)
  case F =>
    intro w mg fa h KX G hmg
    refine' T73.all_mk KX G hmg ?a0 ?l0 ?c0 ?k0 ?a1 ?l1 ?c1 ?k1 ?a2 ?l2 ?c2 ?k2 ?a3 ?l3 ?c3 ?k3 ?a4 ?l4 ?c4 ?k4 ?a5 ?l5 ?c5 ?k5 ?a6 ?l6 ?c6 ?k6 ?a7 ?l7 ?c7 ?k7 ?a8 ?l8 ?c8 ?k8 ?a9 ?l9 ?c9 ?k9 ?a10 ?l10 ?c10 ?k10 ?a11 ?l11 ?c11 ?k11 ?a12 ?l12 ?c12 ?k12 ?a13 ?l13 ?c13 ?k13 ?a14 ?l14 ?c14 ?k14 ?a15 ?l15 ?c15 ?k15 ?a16 ?l16 ?c16 ?k16 ?a17 ?l17 ?c17 ?k17 ?z_all ?z_bool ?z_int ?z_isinstance ?z_len ?z_list ?z_max ?z_range ?z_str ?z_tuple ?z_zip ?g_LETTERS ?g_MOST_LETTERS
    (case a0 => k_is); (case l0 => k_is); (case c0 => k_is); (case k0 => k_is); (case a1 => k_is); (case l1 => k_is); (case c1 => k_is); (case k1 => k_is); (case a2 => k_is); (case l2 => k_is); (case c2 => k_is); (case k2 => k_is); (case a3 => k_is); (case l3 => k_is); (case c3 => k_is); (case k3 => k_is); (case a4 => k_is); (case l4 => k_is); (case c4 => k_is); (case k4 => k_is); (case a5 => k_is); (case l5 => k_is); (case c5 => k_is); (case k5 => k_is); (case a6 => k_is); (case l6 => k_is); (case c6 => k_is); (case k6 => k_is); (case a7 => k_is); (case l7 => k_is); (case c7 => k_is); (case k7 => k_is); (case a8 => k_is); (case l8 => k_is); (case c8 => k_is); (case k8 => k_is); (case a9 => k_is); (case l9 => k_is); (case c9 => k_is); (case k9 => k_is); (case a10 => k_is); (case l10 => k_is); (case c10 => k_is); (case k10 => k_is); (case a11 => k_is); (case l11 => k_is); (case c11 => k_is); (case k11 => k_is); (case a12 => k_is); (case l12 => k_is); (case c12 => k_is); (case k12 => k_is); (case a13 => k_is); (case l13 => k_is); (case c13 => k_is); (case k13 => k_is); (case a14 => k_is); (case l14 => k_is); (case c14 => k_is); (case k14 => k_is); (case a15 => k_is); (case l15 => k_is); (case c15 => k_is); (case k15 => k_is); (case a16 => k_is); (case l16 => k_is); (case c16 => k_is); (case k16 => k_is); (case a17 => k_is); (case l17 => k_is); (case c17 => k_is); (case k17 => k_is); (case z_all => k_is); (case z_bool => k_is); (case z_int => k_is); (case z_isinstance => k_is); (case z_len => k_is); (case z_list => k_is); (case z_max => k_is); (case z_range => k_is); (case z_str => k_is); (case z_tuple => k_is); (case z_zip => k_is); (case g_LETTERS => k_is); (case g_MOST_LETTERS => k_is)

