import PyProof.Rows.All
import Wide.All
import OpenK.AllK
import Wide.FinOn
import HandS.ForMost
import HandS.ForExc
import HandS.Wide
import HandS.Nested
import HandS.EndTab
import KE.SortKeyHeap
import HandS.Conv
import HandS.SortInts
import HandS.Style
import HandS.IsInst
import HandS.Deep
import HandS.SortKw
import HandS.SetFor
import HandS.Remove
import HandS.Strs
import HandS.TupSets
import HandS.Defaults
import KE.KExcSuper
import HandS.ExcInit
import HandS.ExcField
import HandS.ExcSuper
import HandS.ExcIs
import KE.RegKSuper
import HandS.EndOwn
import KE.KNestM
import HandS.HotCalls
import PySem.Challenge.RW_atmostwrong_k22_errors

set_option Elab.async false
set_option linter.all false
set_option autoImplicit false
set_option maxRecDepth 100000
set_option maxHeartbeats 2000000
/-! Y: a typed layer over the readings. A def is walked against a mirror (a plain function into Res); the walk itself has no side conditions: they stand in the mirror as «no». -/
namespace Y
open PySem PySem.Spec PyProof.Rows L2

abbrev St := L2.St
/-! ### outcomes -/
/-- what the program raises -/
inductive Exn where
  | num (n : Int) | link (n : Int) | news (n : Option Int) | plan (l : List Int) | bound (n : Option Int) | noplan (l : List Int) | text (n : Int)
  deriving DecidableEq
inductive Res (α : Type) where
  | ok (a : α) | er (e : Exn) | no
def Res.bind {α β : Type} (m : Res α) (k : α → Res β) : Res β := match m with
  | .ok a => k a
  | .er e => .er e
  | .no => .no
inductive Out (S ρ : Type) where
  | nx (s : S) | rt (r : ρ) | er (e : Exn) | no
def Res.out {α S ρ : Type} (m : Res α) (k : α → Out S ρ) : Out S ρ := match m with
  | .ok a => k a
  | .er e => .er e
  | .no => .no
def Out.seq {S S' ρ : Type} (m : Out S ρ) (k : S → Out S' ρ) : Out S' ρ := match m with
  | .nx s => k s
  | .rt r => .rt r
  | .er e => .er e
  | .no => .no
/-- a def that always returns; one that returns nothing -/
def Out.fin {S ρ : Type} (m : Out S ρ) : Res ρ := match m with
  | .nx _ => .no
  | .rt r => .ok r
  | .er e => .er e
  | .no => .no
def Out.finN {S : Type} (m : Out S Unit) : Res Unit := match m with
  | .nx _ => .ok ()
  | .rt _ => .ok ()
  | .er e => .er e
  | .no => .no
def ofOpt {α : Type} (o : Option α) : Res α := match o with
  | some a => .ok a
  | none => .no
def guardR {α : Type} (c : Bool) (a : α) : Res α := match c with
  | true => .ok a
  | false => .no

/-! ### heaps: F what stands for good, H all that is tracked -/
/-- the tables of code objects that the law's defs write, and the names that their places have -/
class TabC where
  T : List NdefX.NTab
/-- not a table -/
def NT (o : HO) : Prop := ∀ ps, o ≠ .tbl ps
/-- all but the tables stays; a table stays there -/
structure Same (H H' : Hp) : Prop where
  a : ∀ b o, H b = some o → NT o → H' b = some o
  t : ∀ b ps, H b = some (.tbl ps) → ∃ ps', H' b = some (.tbl ps')
theorem Same.k {H H' : Hp} {b : Addr} {o : HO} (s : Same H H') (h : H b = some o) (n : NT o := by exact fun _ z => nomatch z) : H' b = some o := s.a b o h n
theorem Same.refl (H : Hp) : Same H H := ⟨fun _ _ h _ => h, fun _ ps h => ⟨ps, h⟩⟩
theorem Same.of {H H' : Hp} (h : L2.Same H H') : Same H H' := ⟨fun b o e _ => h b o e, fun b ps e => ⟨ps, h b _ e⟩⟩
theorem Same.trans {H H1 H2 : Hp} (a : Same H H1) (b : Same H1 H2) : Same H H2 := ⟨fun c o h n => b.a c o (a.a c o h n) n, fun c ps h => let ⟨ps', h'⟩ := a.t c ps h; b.t c ps' h'⟩
theorem Same.n {H H' : Hp} (e : Same H H') (b : Addr) (h : H' b = none) : H b = none := by
  cases q : H b with
  | none => rfl
  | some o =>
    cases o with
    | tbl ps =>
      obtain ⟨ps', z⟩ := e.t b ps q
      rw [h] at z
      cases z
    | _ =>
      have z := e.k q
      rw [h] at z
      cases z
theorem Same.free {H H' : Hp} (e : Same H H') {l : Addr} (h : H' l = none) : H l = none := e.n l h
theorem Same.seq {K : PySem.W.Frag} {H H' : Hp} {a : Addr} {xs : List V} (e : Same H H') (h : SqL K H a xs) : SqL K H' a xs := by
  rcases h with (h | ⟨o, h⟩) | h
  · exact .inl (.inl (e.k h))
  · exact .inl (.inr ⟨o, e.k h⟩)
  · exact .inr h
theorem Same.some {H H' : Hp} (e : Same H H') {b : Addr} (h : H b ≠ none) : H' b ≠ none := fun z => h (e.n b z)
/-- the tables are in order -/
def Tb [TabC] (H : Hp) : Prop := NdefX.TabsN TabC.T H
section
variable [TabC]
theorem Tb.up {H H' : Hp} (t : Tb H) (e : ∀ b o, H b = some o → H' b = some o) : Tb H' := NdefX.TabsN.ext t e
theorem Tb.new {H : Hp} {p : Addr} {o : HO} (h : H p = none) (t : Tb H) : Tb (upd H p o) := t.up fun b x e => by
  rw [upd_ne (ne_of_none e h)]
  exact e
/-- a change at a thing that is no code object -/
theorem Tb.set {H : Hp} {p : Addr} {o o' : HO} (h : H p = some o) (n1 : NT o := by exact fun _ z => nomatch z) (n2 : ∀ c q, o ≠ LamX.CodeO c q := by exact fun _ _ z => nomatch z) (t : Tb H) : Tb (upd H p o') := fun x hx => by
  obtain ⟨ps, h1, h2, h3⟩ := t x hx
  refine ⟨ps, ?_, h2, fun pos cv hc => ?_⟩
  · rw [upd_ne fun z => n1 ps (Option.some.inj (h.symm.trans (by rw [← z]; exact h1)))]
    exact h1
  · obtain ⟨c, e1, e2⟩ := h3 pos cv hc
    refine ⟨c, e1, ?_⟩
    rw [upd_ne fun z => n2 _ _ (Option.some.inj (h.symm.trans (by rw [← z]; exact e2)))]
    exact e2
structure Grow (F H F' H' : Hp) : Prop where
  hh : Same H H'
  fh : Same F' H'
  eq : ∀ a, H a ≠ none → F' a = F a
  tb : Tb H → Tb H'
theorem Grow.refl {F H : Hp} (h : Same F H) : Grow F H F H := ⟨.refl H, h, fun _ _ => rfl, id⟩
theorem Grow.ff {F H F' H' : Hp} (g : Grow F H F' H') (h : Same F H) : Same F F' := by
  have k : ∀ b o, F b = some o → F' b = some o := fun b o e => by
    rw [g.eq b (h.some (by rw [e]; exact fun z => nomatch z))]
    exact e
  exact ⟨fun b o e _ => k b o e, fun b ps e => ⟨ps, k b _ e⟩⟩
theorem Grow.trans {F H F1 H1 F2 H2 : Hp} (g : Grow F H F1 H1) (g2 : Grow F1 H1 F2 H2) : Grow F H F2 H2 := ⟨g.hh.trans g2.hh, g2.fh, fun a h => by
  rw [g2.eq a (g.hh.some h), g.eq a h], fun t => g2.tb (g.tb t)⟩
omit [TabC] in
theorem same_new {H : Hp} {p : Addr} {o : HO} (h : H p = none) : Same H (upd H p o) := .of fun b x e => by
  rw [upd_ne (ne_of_none e h)]
  exact e
omit [TabC] in
theorem same_up {F H : Hp} {p : Addr} {o : HO} (s : Same F H) (h : F p = none) : Same F (upd H p o) := ⟨fun b x e n => by
  rw [upd_ne (ne_of_none e h)]
  exact s.a b x e n, fun b ps e => by
  obtain ⟨ps', z⟩ := s.t b ps e
  exact ⟨ps', by rw [upd_ne (ne_of_none e h)]; exact z⟩⟩
/-- a new object that stays for good -/
theorem Grow.new {F H : Hp} {p : Addr} {o : HO} (s : Same F H) (h : H p = none) : Grow F H (upd F p o) (upd H p o) := by
  refine ⟨same_new h, ⟨fun b x e n => ?_, fun b ps e => ?_⟩, fun a ha => ?_, Tb.new h⟩
  · by_cases hb : b = p
    · subst hb
      rw [upd_same] at e ⊢
      exact e
    · rw [upd_ne hb] at e ⊢
      exact s.a b x e n
  · by_cases hb : b = p
    · subst hb
      rw [upd_same] at e
      exact ⟨ps, by rw [upd_same]; exact e⟩
    · rw [upd_ne hb] at e ⊢
      exact s.t b ps e
  · exact upd_ne fun z => ha (by rw [z]; exact h)
/-- a new object that may still change -/
theorem Grow.newH {F H : Hp} {p : Addr} {o : HO} (s : Same F H) (h : H p = none) : Grow F H F (upd H p o) :=
  ⟨same_new h, same_up s (s.free h), fun _ _ => rfl, Tb.new h⟩
/-- an object that came new stands for good from now on -/
theorem Grow.freeze {F H F' H' : Hp} {p : Addr} {o : HO} (g : Grow F H F' H') (h : H p = none) (e : H' p = some o) : Grow F H (upd F' p o) H' := by
  refine ⟨g.hh, ⟨fun b x q n => ?_, fun b ps q => ?_⟩, fun a ha => ?_, g.tb⟩
  · by_cases hb : b = p
    · subst hb
      rw [upd_same] at q
      rw [e]
      exact q
    · rw [upd_ne hb] at q
      exact g.fh.a b x q n
  · by_cases hb : b = p
    · subst hb
      rw [upd_same] at q
      exact ⟨ps, by rw [e]; exact q⟩
    · rw [upd_ne hb] at q
      exact g.fh.t b ps q
  · rw [upd_ne fun z => ha (by rw [z]; exact h)]
    exact g.eq a ha
/-- a change at a list of one's own -/
theorem Grow.change {F H F' H' : Hp} {p : Addr} {o : HO} {vs : List V} (g : Grow F H F' H') (h : H p = none) (hf : F' p = none) (hl : H' p = some (.lst vs)) : Grow F H F' (upd H' p o) :=
  ⟨same_up g.hh h, same_up g.fh hf, g.eq, fun t => Tb.set hl (t := g.tb t)⟩
end
/-- what a call that raised leaves -/
structure SameT [TabC] (H H' : Hp) : Prop where
  s : Same H H'
  t : Tb H → Tb H'
theorem SameT.trans [TabC] {H H1 H2 : Hp} (a : SameT H H1) (b : SameT H1 H2) : SameT H H2 := ⟨a.s.trans b.s, fun t => b.t (a.t t)⟩
theorem SameT.of [TabC] {H H' : Hp} (h : L2.Same H H') : SameT H H' := ⟨.of h, fun t => t.up h⟩
theorem Grow.ht [TabC] {F H F' H' : Hp} (g : Grow F H F' H') : SameT H H' := ⟨g.hh, g.tb⟩

/-! ### what a value stands for -/
structure RT (K : PySem.W.Frag) (α : Type) where
  r : Hp → V → α → Prop
  mono : ∀ {H H' : Hp} {v : V} {a : α}, Same H H' → r H v a → r H' v a
abbrev Ps {K : PySem.W.Frag} {α : Type} (R : RT K α) (H : Hp) : List V → List α → Prop := Paired (R.r H)
theorem Ps.mono {K : PySem.W.Frag} {α : Type} {R : RT K α} {H H' : Hp} (s : Same H H') : ∀ {vs : List V} {as : List α}, Ps R H vs as → Ps R H' vs as
  | _, _, .nil => .nil
  | _, _, .cons h t => .cons (R.mono s h) (Ps.mono s t)
theorem Paired.get1 {α β : Type} {P : α → β → Prop} : ∀ {xs : List α} {ys : List β} {i : Nat} {x : α}, Paired P xs ys → xs[i]? = some x → ∃ y, ys[i]? = some y ∧ P x y
  | _, _, _, _, .nil, e => by simp at e
  | _, _, 0, _, .cons r _, e => by simp at e; subst e; exact ⟨_, rfl, r⟩
  | _, _, i + 1, x, .cons _ t, e => by
    obtain ⟨u, h1, h2⟩ := Paired.get1 (i := i) (x := x) t (by simpa using e)
    exact ⟨u, by simpa using h1, h2⟩
theorem Paired.get2 {α β : Type} {P : α → β → Prop} : ∀ {xs : List α} {ys : List β} {i : Nat} {y : β}, Paired P xs ys → ys[i]? = some y → ∃ x, xs[i]? = some x ∧ P x y
  | _, _, _, _, .nil, e => by simp at e
  | _, _, 0, _, .cons r _, e => by simp at e; subst e; exact ⟨_, rfl, r⟩
  | _, _, i + 1, x, .cons _ t, e => by
    obtain ⟨u, h1, h2⟩ := Paired.get2 (i := i) (y := x) t (by simpa using e)
    exact ⟨u, by simpa using h1, h2⟩
theorem Paired.app {α β : Type} {P : α → β → Prop} : ∀ {xs : List α} {ys : List β} {xs' : List α} {ys' : List β}, Paired P xs ys → Paired P xs' ys' → Paired P (xs ++ xs') (ys ++ ys')
  | _, _, _, _, .nil, s => s
  | _, _, _, _, .cons r t, s => .cons r (Paired.app t s)
theorem Paired.tk {α β : Type} {P : α → β → Prop} : ∀ {xs : List α} {ys : List β} (n : Nat), Paired P xs ys → Paired P (xs.take n) (ys.take n)
  | _, _, 0, _ => .nil
  | _, _, _ + 1, .nil => .nil
  | _, _, n + 1, .cons r t => .cons r (Paired.tk n t)
theorem Paired.dr {α β : Type} {P : α → β → Prop} : ∀ {xs : List α} {ys : List β} (n : Nat), Paired P xs ys → Paired P (xs.drop n) (ys.drop n)
  | _, _, 0, r => r
  | _, _, _ + 1, .nil => .nil
  | _, _, n + 1, .cons _ t => Paired.dr n t
theorem Paired.st {α β : Type} {P : α → β → Prop} {x : α} {y : β} (r : P x y) : ∀ {xs : List α} {ys : List β} (i : Nat), Paired P xs ys → Paired P (xs.set i x) (ys.set i y)
  | _, _, _, .nil => .nil
  | _, _, 0, .cons _ t => .cons r t
  | _, _, i + 1, .cons q t => .cons q (Paired.st r i t)

section
variable {K : PySem.W.Frag}
/-- the value itself tells all -/
structure Free {α : Type} (R : RT K α) : Prop where
  f : ∀ {H H' : Hp} {v : V} {a : α}, R.r H v a → R.r H' v a
def rInt : RT K Int := ⟨fun _ v i => v = .int i, fun _ h => h⟩
def rBool : RT K Bool := ⟨fun _ v i => v = .bl i, fun _ h => h⟩
def rStr : RT K Str := ⟨fun _ v i => v = .str i ∧ PySem.PyData.strOk i = true, fun _ h => h⟩
def rUnit : RT K Unit := ⟨fun _ v _ => v = .non, fun _ h => h⟩
theorem free_int : Free (rInt (K := K)) := ⟨fun h => h⟩
theorem free_bool : Free (rBool (K := K)) := ⟨fun h => h⟩
theorem free_str : Free (rStr (K := K)) := ⟨fun h => h⟩
theorem free_unit : Free (rUnit (K := K)) := ⟨fun h => h⟩
def rOpt {α : Type} (R : RT K α) : RT K (Option α) := ⟨fun H v o => match o with
  | none => v = .non
  | some a => v ≠ .non ∧ R.r H v a, fun {H H' v a} s h => by
    cases a with
    | none => exact h
    | some a => exact ⟨h.1, R.mono s h.2⟩⟩
def rList {α : Type} (R : RT K α) : RT K (List α) := ⟨fun H v as => ∃ p vs, v = .ref p ∧ H p = some (.lst vs) ∧ Ps R H vs as, fun s h => by
  obtain ⟨p, vs, e, h, t⟩ := h
  exact ⟨p, vs, e, s.k h, t.mono s⟩⟩
/-- a list to be read alone (the script) -/
def rSeq {α : Type} (R : RT K α) : RT K (List α) := ⟨fun H v as => ∃ p vs, v = .ref p ∧ SqL K H p vs ∧ Ps R H vs as, fun s h => by
  obtain ⟨p, vs, e, h, t⟩ := h
  exact ⟨p, vs, e, s.seq h, t.mono s⟩⟩

/-! ### kinds of results: H0 the heap ahead, F and H behind -/
structure RK [TabC] (K : PySem.W.Frag) (ν α : Type) where
  p : Hp → Hp → Hp → ν → α → Prop
  st : ∀ {H0 F H F' H' : Hp} {v : ν} {a : α}, Same F H → Grow F H F' H' → p H0 F H v a → p H0 F' H' v a
  pre : ∀ {H0 H1 F H : Hp} {v : ν} {a : α}, Same H0 H1 → p H1 F H v a → p H0 F H v a
variable [TabC]
def pers {α : Type} (R : RT K α) : RK K V α := ⟨fun _ F _ v a => R.r F v a, fun s g h => R.mono (g.ff s) h, fun _ h => h⟩
/-- as it stands now -/
def trn {α : Type} (R : RT K α) : RK K V α := ⟨fun _ _ H v a => R.r H v a, fun _ g h => R.mono g.hh h, fun _ h => h⟩
/-- a list, read as it stands now, of items that stand for good -/
def lst {α : Type} (R : RT K α) : RK K V (List α) := ⟨fun _ F H v as => ∃ p vs, v = .ref p ∧ H p = some (.lst vs) ∧ Ps R F vs as, fun s g h => by
  obtain ⟨p, vs, e, h, t⟩ := h
  exact ⟨p, vs, e, g.hh.k h, t.mono (g.ff s)⟩, fun _ h => h⟩
def seq {α : Type} (R : RT K α) : RK K V (List α) := ⟨fun _ F H v as => ∃ p vs, v = .ref p ∧ SqL K H p vs ∧ Ps R F vs as, fun s g h => by
  obtain ⟨p, vs, e, h, t⟩ := h
  exact ⟨p, vs, e, g.hh.seq h, t.mono (g.ff s)⟩, fun _ h => h⟩
/-- a new list -/
def fre {α : Type} (R : RT K α) : RK K V (List α) := ⟨fun H0 F H v as => ∃ p vs, v = .ref p ∧ H0 p = none ∧ H p = some (.lst vs) ∧ F p = none ∧ Ps R F vs as, fun {H0 F H F' H' v a} s g h => by
  obtain ⟨p, vs, e, h0, h, hf, t⟩ := h
  refine ⟨p, vs, e, h0, g.hh.k h, ?_, t.mono (g.ff s)⟩
  rw [g.eq p (by rw [h]; exact fun z => nomatch z)]
  exact hf, fun s h => by
  obtain ⟨p, vs, e, h0, q⟩ := h
  exact ⟨p, vs, e, s.free h0, q⟩⟩
def aN : RK K (List V) Unit := ⟨fun _ _ _ vs _ => vs = [], fun _ _ h => h, fun _ h => h⟩
def aC {α A : Type} (P : RK K V α) (R : RK K (List V) A) : RK K (List V) (α × A) := ⟨fun H0 F H vs a => ∃ v r, vs = v :: r ∧ P.p H0 F H v a.1 ∧ R.p H0 F H r a.2, fun s g h => by
  obtain ⟨v, r, e, h, t⟩ := h
  exact ⟨v, r, e, P.st s g h, R.st s g t⟩, fun s h => by
  obtain ⟨v, r, e, h, t⟩ := h
  exact ⟨v, r, e, P.pre s h, R.pre s t⟩⟩
end

/-! ### what is wanted behind -/
/-- how an exception lies: its class, its dict, the heap ahead and behind -/
structure XR where
  p : Exn → Value → Option Addr → Hp → Hp → Prop
  pre : ∀ {e : Exn} {c : Value} {d : Option Addr} {H H1 H' : Hp}, Same H H1 → p e c d H1 H' → p e c d H H'
section
variable [TabC] {K : PySem.W.Frag} {ν α β γ : Type}
/-- H0: the heap ahead of the whole; F, H: now -/
def Want (xr : XR) (P : RK K ν α) (E : XK) (H0 F H : Hp) (m : Res α) (Q : ν → Hp → Prop) : Prop := match m with
  | .ok a => ∀ v F' H', Grow F H F' H' → P.p H0 F' H' v a → Q v H'
  | .er e => ∀ cls d H', SameT H H' → xr.p e cls d H H' → E cls d H'
  | .no => False
theorem Want.shift {xr : XR} {P : RK K ν α} {E : XK} {H0 F H F1 H1 : Hp} {m : Res α} {Q : ν → Hp → Prop} (h : Want xr P E H0 F H m Q) (g : Grow F H F1 H1) : Want xr P E H0 F1 H1 m Q := by
  cases m with
  | ok a => exact fun v F' H' g' p => h v F' H' (g.trans g') p
  | er e => exact fun cls d H' s x => h cls d H' (g.ht.trans s) (xr.pre g.hh x)
  | no => exact h
theorem Want.late {xr : XR} {P : RK K ν α} {E : XK} {H0 F H H1 : Hp} {m : Res α} {Q : ν → Hp → Prop} (h : Want xr P E H0 F H m Q) (s : Same H0 H1) : Want xr P E H1 F H m Q := by
  cases m with
  | ok a => exact fun v F' H' g' p => h v F' H' g' (P.pre s p)
  | er e => exact h
  | no => exact h
theorem Want.opt {xr : XR} {P : RK K ν α} {E : XK} {H0 F H : Hp} {o : Option α} {Q : ν → Hp → Prop} (h : Want xr P E H0 F H (ofOpt o) Q) : ∃ x, o = some x ∧ Want xr P E H0 F H (.ok x) Q := by
  cases o with
  | none => exact h.elim
  | some x => exact ⟨x, rfl, h⟩
theorem Want.grd {xr : XR} {P : RK K ν α} {E : XK} {H0 F H : Hp} {c : Bool} {a : α} {Q : ν → Hp → Prop} (h : Want xr P E H0 F H (guardR c a) Q) : c = true ∧ Want xr P E H0 F H (.ok a) Q := by
  cases c with
  | true => exact ⟨rfl, h⟩
  | false => exact h.elim
/-- the answer is there -/
theorem Want.here {xr : XR} {P : RK K ν α} {E : XK} {H0 F H : Hp} {a : α} {Q : ν → Hp → Prop} (h : Want xr P E H0 F H (.ok a) Q) {v : ν} (s : Same F H) (p : P.p H0 F H v a) : Q v H := h v F H (.refl s) p
end

/-! ### the slots -/
structure SS [TabC] (K : PySem.W.Frag) (S : Type) where
  rel : Hp → List Addr → Hp → Hp → St → S → Prop
  grow : ∀ {B : Hp} {acc : List Addr} {F H F' H' : Hp} {σ : St} {s : S}, rel B acc F H σ s → Same F H → Grow F H F' H' → rel B acc F' H' σ s
  frame : ∀ {B : Hp} {acc : List Addr} {F H : Hp} {σ : St} {s : S} {p : Addr} {o : HO}, rel B acc F H σ s → p ∈ acc → rel B acc F (upd H p o) σ s
  more : ∀ {B : Hp} {acc acc' : List Addr} {F H : Hp} {σ : St} {s : S}, rel B acc F H σ s → (∀ q ∈ acc', q ∈ acc ∨ H q = none) → rel B acc' F H σ s
  frz : ∀ {B : Hp} {acc : List Addr} {F H : Hp} {σ : St} {s : S} {p : Addr} {o : HO}, rel B acc F H σ s → p ∈ acc → F p = none → rel B acc (upd F p o) H σ s
section
variable [TabC] {K : PySem.W.Frag} {S α : Type}
def sN : SS K Unit := ⟨fun _ _ _ _ σ _ => σ = [], fun h _ _ => h, fun h _ => h, fun h _ => h, fun h _ _ => h⟩
def sI (R : RT K α) (ss : SS K S) : SS K (Option α × S) where
  rel := fun B acc F H σ s => ∃ x σ', σ = x :: σ' ∧ (∀ a, s.1 = some a → ∃ v, x = some v ∧ R.r F v a) ∧ ss.rel B acc F H σ' s.2
  grow := fun h s g => by
    obtain ⟨x, σ', e, h, t⟩ := h
    exact ⟨x, σ', e, fun a q => let ⟨v, ev, hv⟩ := h a q; ⟨v, ev, R.mono (g.ff s) hv⟩, ss.grow t s g⟩
  frame := fun h hp => by
    obtain ⟨x, σ', e, h, t⟩ := h
    exact ⟨x, σ', e, h, ss.frame t hp⟩
  more := fun h hq => by
    obtain ⟨x, σ', e, h, t⟩ := h
    exact ⟨x, σ', e, h, ss.more t hq⟩
  frz := fun h hp hf => by
    obtain ⟨x, σ', e, h, t⟩ := h
    exact ⟨x, σ', e, fun a q => let ⟨v, ev, hv⟩ := h a q; ⟨v, ev, R.mono (same_new hf) hv⟩, ss.frz t hp hf⟩
def sO (R : RT K α) (ss : SS K S) : SS K (Option (List α) × S) where
  rel := fun B acc F H σ s => ∃ x σ', σ = x :: σ' ∧ match s.1 with
    | none => ss.rel B acc F H σ' s.2
    | some as => ∃ p vs, x = some (.ref p) ∧ B p = none ∧ p ∉ acc ∧ H p = some (.lst vs) ∧ F p = none ∧ Ps R F vs as ∧ ss.rel B (p :: acc) F H σ' s.2
  grow := fun {B acc F H F' H' σ s} h sm g => by
    obtain ⟨x, σ', e, h⟩ := h
    refine ⟨x, σ', e, ?_⟩
    cases q : s.1 with
    | none =>
      rw [q] at h
      exact ss.grow h sm g
    | some as =>
      rw [q] at h
      obtain ⟨p, vs, ex, hb, ha, hh, hf, ps, t⟩ := h
      refine ⟨p, vs, ex, hb, ha, g.hh.k hh, ?_, ps.mono (g.ff sm), ss.grow t sm g⟩
      rw [g.eq p (by rw [hh]; exact fun z => nomatch z)]
      exact hf
  frame := fun {B acc F H σ s p o} h hp => by
    obtain ⟨x, σ', e, h⟩ := h
    refine ⟨x, σ', e, ?_⟩
    cases q : s.1 with
    | none =>
      rw [q] at h
      exact ss.frame h hp
    | some as =>
      rw [q] at h
      obtain ⟨p', vs, ex, hb, ha, hh, hf, ps, t⟩ := h
      have ne : p' ≠ p := fun z => ha (by rw [z]; exact hp)
      exact ⟨p', vs, ex, hb, ha, by rw [upd_ne ne]; exact hh, hf, ps, ss.frame t (List.mem_cons_of_mem _ hp)⟩
  more := fun {B acc acc' F H σ s} h hq => by
    obtain ⟨x, σ', e, h⟩ := h
    refine ⟨x, σ', e, ?_⟩
    cases q : s.1 with
    | none =>
      rw [q] at h
      exact ss.more h hq
    | some as =>
      rw [q] at h
      obtain ⟨p', vs, ex, hb, ha, hh, hf, ps, t⟩ := h
      refine ⟨p', vs, ex, hb, fun z => ?_, hh, hf, ps, ss.more t fun r hr => ?_⟩
      · rcases hq p' z with c | c
        · exact ha c
        · rw [hh] at c
          cases c
      · rcases List.mem_cons.mp hr with c | c
        · exact .inl (by rw [c]; exact List.mem_cons_self)
        · rcases hq r c with d | d
          · exact .inl (List.mem_cons_of_mem _ d)
          · exact .inr d
  frz := fun {B acc F H σ s p o} h hp hf0 => by
    obtain ⟨x, σ', e, h⟩ := h
    refine ⟨x, σ', e, ?_⟩
    cases q : s.1 with
    | none =>
      rw [q] at h
      exact ss.frz h hp hf0
    | some as =>
      rw [q] at h
      obtain ⟨p', vs, ex, hb, ha, hh, hf, ps, t⟩ := h
      have ne : p' ≠ p := fun z => ha (by rw [z]; exact hp)
      exact ⟨p', vs, ex, hb, ha, hh, by rw [upd_ne ne]; exact hf, ps.mono (same_new hf0), ss.frz t (List.mem_cons_of_mem _ hp) hf0⟩
end
/-- the places of a state -/
def gz {α S : Type} : Option α × S → Option α := Prod.fst
def gs {α β S : Type} (g : S → Option α) : Option β × S → Option α := fun s => g s.2
def wz {α S : Type} : α → Option α × S → Option α × S := fun a s => (some a, s.2)
def ws {α β S : Type} (w : α → S → S) : α → Option β × S → Option β × S := fun a s => (s.1, w a s.2)
/-- a slot that holds a thing for good -/
structure LI [TabC] {K : PySem.W.Frag} {S α : Type} (ss : SS K S) (i : Nat) (R : RT K α) (g : S → Option α) (w : α → S → S) : Prop where
  get : ∀ {B : Hp} {acc : List Addr} {F H : Hp} {σ : St} {s : S} {a : α}, ss.rel B acc F H σ s → g s = some a → ∃ v, σ[i]? = some (some v) ∧ R.r F v a
  set : ∀ {B : Hp} {acc : List Addr} {F H : Hp} {σ : St} {s : S} {a : α} {v : V}, ss.rel B acc F H σ s → R.r F v a → ss.rel B acc F H (σ.set i (some v)) (w a s)
/-- a slot that owns a list -/
structure LO [TabC] {K : PySem.W.Frag} {S α : Type} (ss : SS K S) (i : Nat) (R : RT K α) (g : S → Option (List α)) (w : List α → S → S) : Prop where
  get : ∀ {B : Hp} {acc : List Addr} {F H : Hp} {σ : St} {s : S} {as : List α}, ss.rel B acc F H σ s → g s = some as →
    ∃ p vs, σ[i]? = some (some (.ref p)) ∧ B p = none ∧ p ∉ acc ∧ H p = some (.lst vs) ∧ F p = none ∧ Ps R F vs as ∧
      ∀ vs' as', Ps R F vs' as' → ss.rel B acc F (upd H p (.lst vs')) σ (w as' s)
  set : ∀ {B : Hp} {acc : List Addr} {F H F' H' : Hp} {σ : St} {s : S} {as : List α} {p : Addr} {vs : List V}, ss.rel B acc F H σ s → Same F H → Grow F H F' H' → B p = none → H p = none → H' p = some (.lst vs) → F' p = none → Ps R F' vs as → p ∉ acc →
    ss.rel B acc F' H' (σ.set i (some (.ref p))) (w as s)
section
variable [TabC] {K : PySem.W.Frag} {S α β : Type} {ss : SS K S} {R : RT K α} {R' : RT K β} {i : Nat}
theorem LI.z : LI (sI R ss) 0 R gz wz where
  get := fun h e => by
    obtain ⟨x, σ', rfl, h, t⟩ := h
    obtain ⟨v, ev, hv⟩ := h _ e
    exact ⟨v, by rw [ev]; rfl, hv⟩
  set := fun {B acc F H σ s a v} h hv => by
    obtain ⟨x, σ', rfl, h, t⟩ := h
    exact ⟨some v, σ', rfl, fun b e => ⟨v, rfl, by cases e; exact hv⟩, t⟩
theorem LI.s {g : S → Option α} {w : α → S → S} (l : LI ss i R g w) : LI (sI R' ss) (i + 1) R (gs g) (ws w) where
  get := fun h e => by
    obtain ⟨x, σ', rfl, h, t⟩ := h
    exact l.get t e
  set := fun {B acc F H σ s a v} h hv => by
    obtain ⟨x, σ', rfl, h, t⟩ := h
    exact ⟨x, _, rfl, h, l.set t hv⟩
theorem LI.o {g : S → Option α} {w : α → S → S} (l : LI ss i R g w) : LI (sO R' ss) (i + 1) R (gs g) (ws w) where
  get := fun {B acc F H σ s a} h e => by
    obtain ⟨x, σ', rfl, h⟩ := h
    cases q : s.1 with
    | none =>
      rw [q] at h
      exact l.get h e
    | some as =>
      rw [q] at h
      obtain ⟨p, vs, _, _, _, _, _, _, t⟩ := h
      exact l.get t e
  set := fun {B acc F H σ s a v} h hv => by
    obtain ⟨x, σ', rfl, h⟩ := h
    refine ⟨x, _, rfl, ?_⟩
    show match s.1 with
      | none => _
      | some as => _
    cases q : s.1 with
    | none =>
      rw [q] at h
      exact l.set h hv
    | some as =>
      rw [q] at h
      obtain ⟨p, vs, a1, a2, a3, a4, a5, a6, t⟩ := h
      exact ⟨p, vs, a1, a2, a3, a4, a5, a6, l.set t hv⟩
theorem LO.z : LO (sO R ss) 0 R gz wz where
  get := fun {B acc F H σ s as} h e => by
    obtain ⟨x, σ', rfl, h⟩ := h
    have e' : s.1 = some as := e
    rw [e'] at h
    obtain ⟨p, vs, a1, a2, a3, a4, a5, a6, t⟩ := h
    refine ⟨p, vs, by rw [a1]; rfl, a2, a3, a4, a5, a6, fun vs' as' h' => ⟨x, σ', rfl, p, vs', a1, a2, a3, upd_same, a5, h', ss.frame t List.mem_cons_self⟩⟩
  set := fun {B acc F H F' H' σ s as p vs} h sm g hb hp hp' hf hps hacc => by
    obtain ⟨x, σ', rfl, h⟩ := h
    refine ⟨some (.ref p), σ', rfl, p, vs, rfl, hb, hacc, hp', hf, hps, ?_⟩
    cases q : s.1 with
    | none =>
      rw [q] at h
      exact ss.grow (ss.more h fun r hr => (List.mem_cons.mp hr).elim (fun c => .inr (by rw [c]; exact hp)) .inl) sm g
    | some as =>
      rw [q] at h
      obtain ⟨p', vs', a1, a2, a3, a4, a5, a6, t⟩ := h
      exact ss.grow (ss.more t fun r hr => (List.mem_cons.mp hr).elim (fun c => .inr (by rw [c]; exact hp)) fun c => .inl (List.mem_cons_of_mem _ c)) sm g
theorem LO.s {g : S → Option (List α)} {w : List α → S → S} (l : LO ss i R g w) : LO (sI R' ss) (i + 1) R (gs g) (ws w) where
  get := fun {B acc F H σ s as} h e => by
    obtain ⟨x, σ', rfl, h, t⟩ := h
    obtain ⟨p, vs, a1, a2, a3, a4, a5, a6, k⟩ := l.get t e
    exact ⟨p, vs, a1, a2, a3, a4, a5, a6, fun vs' as' h' => ⟨x, σ', rfl, h, k vs' as' h'⟩⟩
  set := fun {B acc F H F' H' σ s as p vs} h sm g hb hp hp' hf hps hacc => by
    obtain ⟨x, σ', rfl, h, t⟩ := h
    exact ⟨x, _, rfl, fun a q => let ⟨v, ev, hv⟩ := h a q; ⟨v, ev, R'.mono (g.ff sm) hv⟩, l.set t sm g hb hp hp' hf hps hacc⟩
theorem LO.o {g : S → Option (List α)} {w : List α → S → S} (l : LO ss i R g w) : LO (sO R' ss) (i + 1) R (gs g) (ws w) where
  get := fun {B acc F H σ s as} h e => by
    obtain ⟨x, σ', rfl, h⟩ := h
    cases q : s.1 with
    | none =>
      rw [q] at h
      obtain ⟨p, vs, a1, a2, a3, a4, a5, a6, k⟩ := l.get h e
      refine ⟨p, vs, a1, a2, a3, a4, a5, a6, fun vs' as' h' => ⟨x, σ', rfl, ?_⟩⟩
      show match s.1 with
        | none => _
        | some as => _
      rw [q]
      exact k vs' as' h'
    | some bs =>
      rw [q] at h
      obtain ⟨p0, vs0, b1, b2, b3, b4, b5, b6, t⟩ := h
      obtain ⟨p, vs, a1, a2, a3, a4, a5, a6, k⟩ := l.get t e
      refine ⟨p, vs, a1, a2, fun z => a3 (List.mem_cons_of_mem _ z), a4, a5, a6, fun vs' as' h' => ⟨x, σ', rfl, ?_⟩⟩
      show match s.1 with
        | none => _
        | some as => _
      rw [q]
      have ne : p0 ≠ p := fun z => a3 (by rw [z]; exact List.mem_cons_self)
      exact ⟨p0, vs0, b1, b2, b3, by rw [upd_ne ne]; exact b4, b5, b6, k vs' as' h'⟩
  set := fun {B acc F H F' H' σ s as p vs} h sm g hb hp hp' hf hps hacc => by
    obtain ⟨x, σ', rfl, h⟩ := h
    refine ⟨x, _, rfl, ?_⟩
    show match s.1 with
      | none => _
      | some as => _
    cases q : s.1 with
    | none =>
      rw [q] at h
      exact l.set h sm g hb hp hp' hf hps hacc
    | some bs =>
      rw [q] at h
      obtain ⟨p0, vs0, b1, b2, b3, b4, b5, b6, t⟩ := h
      refine ⟨p0, vs0, b1, b2, b3, g.hh.k b4, ?_, b6.mono (g.ff sm), l.set t sm g hb hp hp' hf hps fun z => ?_⟩
      · rw [g.eq p0 (by rw [b4]; exact fun z => nomatch z)]
        exact b5
      · rcases List.mem_cons.mp z with c | c
        · rw [c, b4] at hp
          cases hp
        · exact hacc c
end
end Y


set_option Elab.async false
set_option linter.all false
set_option autoImplicit false
set_option maxRecDepth 100000
set_option maxHeartbeats 2000000
/-! Y2: the judgements of the typed layer: expressions, arguments, tests, statements, loops, comprehensions, calls. -/
namespace Y
open PySem PySem.Spec PyProof.Rows L2

/-! ### points of a body -/
section
variable [TabC] {K : PySem.W.Frag} {S S' ν ν' α β γ ρ : Type}
structure At (ss : SS K S) (F0 B F H : Hp) (σ : St) (s : S) : Prop where
  g : Grow F0 B F H
  t : Tb B
  r : ss.rel B [] F H σ s
theorem At.tb {ss : SS K S} {F0 B F H : Hp} {σ : St} {s : S} (a : At ss F0 B F H σ s) : Tb H := a.g.tb a.t
theorem At.fh {ss : SS K S} {F0 B F H : Hp} {σ : St} {s : S} (a : At ss F0 B F H σ s) : Same F H := a.g.fh
theorem At.grow {ss : SS K S} {F0 B F H F' H' : Hp} {σ : St} {s : S} (a : At ss F0 B F H σ s) (g : Grow F H F' H') : At ss F0 B F' H' σ s := ⟨a.g.trans g, a.t, ss.grow a.r a.fh g⟩
def Does (xr : XR) (W : WX) (ss : SS K S) (t : St → Hp → (ν → Hp → Prop) → Prop) (P : RK K ν α) (m : S → Res α) : Prop :=
  ∀ F0 B F H σ s (Q : ν → Hp → Prop), At ss F0 B F H σ s → Want xr P (WE W σ) H F H (m s) Q → t σ H Q
def WantS (ss' : SS K S') (P : RK K V ρ) (xr : XR) (W : WX) (F0 B F : Hp) (m : Out S' ρ) (D : Ends) : Prop := match m with
  | .nx s' => ∀ F' H' σ', Same F F' → At ss' F0 B F' H' σ' s' → D.nx σ' H'
  | .rt r => ∀ v F' H', Grow F0 B F' H' → P.p B F' H' v r → D.rt v H'
  | .er e => ∀ cls d σ' H', SameT B H' → xr.p e cls d B H' → W cls d σ' H'
  | .no => False
def DoesS (xr : XR) (W : WX) (ss : SS K S) (ss' : SS K S') (P : RK K V ρ) (t : TS) (m : S → Out S' ρ) : Prop :=
  ∀ F0 B F H σ s D, At ss F0 B F H σ s → WantS ss' P xr W F0 B F (m s) D → t D σ H
variable {xr : XR} {W : WX} {ss : SS K S} {ss' : SS K S'} {t : St → Hp → (ν → Hp → Prop) → Prop} {P : RK K ν α} {m : S → Res α} {F0 B F H : Hp} {σ : St} {s : S}
theorem Does.go (d : Does xr W ss t P m) (a : At ss F0 B F H σ s) {Pc : RK K ν' γ} {k : α → Res γ} {Q' : ν' → Hp → Prop} {H0 : Hp} (hw : Want xr Pc (WE W σ) H0 F H ((m s).bind k) Q') {Q : ν → Hp → Prop}
    (hk : ∀ x v F1 H1, m s = .ok x → At ss F0 B F1 H1 σ s → Grow F H F1 H1 → P.p H F1 H1 v x → Want xr Pc (WE W σ) H0 F1 H1 (k x) Q' → Q v H1) : t σ H Q := by
  refine d _ _ _ _ _ _ _ a ?_
  cases e : m s with
  | ok x =>
    rw [e] at hw
    exact fun v F' H' g p => hk x v F' H' e (a.grow g) g p (Want.shift hw g)
  | er x =>
    rw [e] at hw
    exact hw
  | no =>
    rw [e] at hw
    exact hw.elim
theorem WantS.shift {Pr : RK K V ρ} {F1 : Hp} {m : Out S' ρ} {D : Ends} (h : WantS ss' Pr xr W F0 B F m D) (sm : Same F F1) : WantS ss' Pr xr W F0 B F1 m D := by
  cases m with
  | nx s => exact fun F' H' σ' s' a => h F' H' σ' (sm.trans s') a
  | rt r => exact h
  | er e => exact h
  | no => exact h
theorem WantS.opt {Pr : RK K V ρ} {o : Option α} {k : α → Out S' ρ} {D : Ends} (h : WantS ss' Pr xr W F0 B F ((ofOpt o).out k) D) : ∃ x, o = some x ∧ WantS ss' Pr xr W F0 B F (k x) D := by
  cases o with
  | none => exact h.elim
  | some x => exact ⟨x, rfl, h⟩
theorem WantS.grd {Pr : RK K V ρ} {c : Bool} {x : α} {k : α → Out S' ρ} {D : Ends} (h : WantS ss' Pr xr W F0 B F ((guardR c x).out k) D) : c = true ∧ WantS ss' Pr xr W F0 B F (k x) D := by
  cases c with
  | true => exact ⟨rfl, h⟩
  | false => exact h.elim
theorem Does.goS (d : Does xr W ss t P m) (a : At ss F0 B F H σ s) {Pc : RK K V ρ} {k : α → Out S' ρ} {D : Ends} (hw : WantS ss' Pc xr W F0 B F ((m s).out k) D) {Q : ν → Hp → Prop}
    (hk : ∀ x v F1 H1, m s = .ok x → At ss F0 B F1 H1 σ s → Grow F H F1 H1 → P.p H F1 H1 v x → WantS ss' Pc xr W F0 B F1 (k x) D → Q v H1) : t σ H Q := by
  refine d _ _ _ _ _ _ _ a ?_
  cases e : m s with
  | ok x =>
    rw [e] at hw
    exact fun v F' H' g p => hk x v F' H' e (a.grow g) g p (hw.shift (g.ff a.fh))
  | er x =>
    rw [e] at hw
    exact fun cls dd H' sm q => hw cls dd σ H' (a.g.ht.trans sm) (xr.pre a.g.hh q)
  | no =>
    rw [e] at hw
    exact hw.elim
end

/-! ### the mirrors' words -/
section
variable {S S' α β γ A ρ : Type}
def cV (g : S → Option α) : S → Res α := fun s => ofOpt (g s)
def cK (a : α) : S → Res α := fun _ => .ok a
def b2 (f : α → β → Res γ) (ma : S → Res α) (mb : S → Res β) : S → Res γ := fun s => (ma s).bind fun a => (mb s).bind fun b => f a b
def u1 (f : α → Res β) (m : S → Res α) : S → Res β := fun s => (m s).bind f
def notR (m : S → Res Bool) : S → Res Bool := fun s => (m s).bind fun b => .ok (!b)
def andR (m m' : S → Res Bool) : S → Res Bool := fun s => (m s).bind fun b => if b = true then m' s else .ok false
def orR (m m' : S → Res Bool) : S → Res Bool := fun s => (m s).bind fun b => if b = true then .ok true else m' s
def ifR (c : S → Res Bool) (ma mb : S → Res α) : S → Res α := fun s => (c s).bind fun k => if k = true then ma s else mb s
def aNil : S → Res Unit := fun _ => .ok ()
def aCons (m : S → Res α) (m' : S → Res A) : S → Res (α × A) := fun s => (m s).bind fun a => (m' s).bind fun r => .ok (a, r)
def lNil : S → Res (List α) := fun _ => .ok []
def lCons (m : S → Res α) (m' : S → Res (List α)) : S → Res (List α) := fun s => (m s).bind fun a => (m' s).bind fun r => .ok (a :: r)
end
/-! ### expressions -/
section
variable [TabC] {X : Cx} {S S' α β γ A ρ : Type}
structure EE (X : Cx) (xr : XR) (W : WX) (ss : SS X.K S) (e : Expr) (P : RK X.K V α) (m : S → Res α) : Prop where
  ex : ∃ te, PE X e te ∧ Does xr W ss te P m
structure AA (X : Cx) (xr : XR) (W : WX) (ss : SS X.K S) (es : List Expr) (P : RK X.K (List V) A) (m : S → Res A) : Prop where
  ex : ∃ ta, PA X es ta ∧ Does xr W ss ta P m
/-- a test's answer -/
def kB {K : PySem.W.Frag} : RK K Bool Bool := ⟨fun _ _ _ v a => v = a, fun _ _ h => h, fun _ h => h⟩
structure TJ (X : Cx) (xr : XR) (W : WX) (ss : SS X.K S) (e : Expr) (m : S → Res Bool) : Prop where
  ex : ∃ tt, PT X e tt ∧ Does xr W ss tt kB m
structure TW (X : Cx) (xr : XR) (W : WX) (ss : SS X.K S) (e : Expr) (m : S → Res Bool) : Prop where
  ex : ∃ tt, PW X e tt ∧ Does xr W ss tt kB m
variable {xr : XR} {W : WX} {ss : SS X.K S} {ss' : SS X.K S'} {pos : Pos}
/-- the mirror may be written otherwise -/
theorem EE.to {e : Expr} {P : RK X.K V α} {m m' : S → Res α} (h : EE X xr W ss e P m) (q : m = m') : EE X xr W ss e P m' := q ▸ h
/-- another kind of the same answer -/
theorem EE.kind {e : Expr} {P : RK X.K V α} {P' : RK X.K V α} {m : S → Res α} (h : EE X xr W ss e P m)
    (q : ∀ H F1 H1 v a, Same F1 H1 → (∀ b, H b ≠ none → H1 b ≠ none) → P.p H F1 H1 v a → ∃ F2, (∀ F, Grow F H F1 H1 → Grow F H F2 H1) ∧ P'.p H F2 H1 v a) : EE X xr W ss e P' m := by
  obtain ⟨te, p, d⟩ := h.ex
  refine ⟨te, p, fun F0 B F H σ s Q a hw => d _ _ _ _ _ _ _ a ?_⟩
  cases e : m s with
  | ok x =>
    rw [e] at hw
    intro v F1 H1 g hp
    obtain ⟨F2, h2, p2⟩ := q H F1 H1 v x g.fh (fun b hb => g.hh.some hb) hp
    exact hw v F2 H1 (h2 F g) p2
  | er x =>
    rw [e] at hw
    exact hw
  | no =>
    rw [e] at hw
    exact hw
theorem EE.same {e : Expr} {P : RK X.K V α} {P' : RK X.K V α} {m : S → Res α} (h : EE X xr W ss e P m) (q : ∀ H F1 H1 v a, Same F1 H1 → P.p H F1 H1 v a → P'.p H F1 H1 v a) : EE X xr W ss e P' m :=
  h.kind fun H F1 H1 v a s _ p => ⟨F1, fun _ g => g, q H F1 H1 v a s p⟩
/-- a new list stands for good -/
theorem EE.frz {e : Expr} {R : RT X.K α} {m : S → Res (List α)} (h : EE X xr W ss e (fre R) m) : EE X xr W ss e (pers (rList R)) m :=
  h.kind fun H F1 H1 v as s _ hp => by
    obtain ⟨p, vs, ev, h0, h1, hf, ps⟩ := hp
    refine ⟨upd F1 p (.lst vs), fun F g => g.freeze h0 h1, p, vs, ev, upd_same, ps.mono ?_⟩
    exact same_new hf
theorem EE.fl {e : Expr} {R : RT X.K α} {m : S → Res (List α)} (h : EE X xr W ss e (fre R) m) : EE X xr W ss e (lst R) m := h.same fun _ _ _ _ _ _ hp => by
  obtain ⟨p, vs, ev, _, h1, _, ps⟩ := hp
  exact ⟨p, vs, ev, h1, ps⟩
theorem EE.pl {e : Expr} {R : RT X.K α} {m : S → Res (List α)} (h : EE X xr W ss e (pers (rList R)) m) : EE X xr W ss e (lst R) m := h.same fun _ _ _ _ _ s hp => by
  obtain ⟨p, vs, ev, h1, ps⟩ := hp
  exact ⟨p, vs, ev, s.k h1, ps⟩
theorem EE.ls {e : Expr} {R : RT X.K α} {m : S → Res (List α)} (h : EE X xr W ss e (lst R) m) : EE X xr W ss e (seq R) m := h.same fun _ _ _ _ _ _ hp => by
  obtain ⟨p, vs, ev, h1, ps⟩ := hp
  exact ⟨p, vs, ev, SqL.of h1, ps⟩
theorem EE.ps {e : Expr} {R : RT X.K α} {m : S → Res (List α)} (h : EE X xr W ss e (pers (rSeq R)) m) : EE X xr W ss e (seq R) m := h.same fun _ _ _ _ _ s hp => by
  obtain ⟨p, vs, ev, h1, ps⟩ := hp
  exact ⟨p, vs, ev, s.seq h1, ps⟩
theorem EE.pt {e : Expr} {R : RT X.K α} {m : S → Res α} (h : EE X xr W ss e (pers R) m) : EE X xr W ss e (trn R) m := h.same fun _ _ _ _ _ s hp => R.mono s hp
theorem EE.lt {e : Expr} {R : RT X.K α} {m : S → Res (List α)} (h : EE X xr W ss e (lst R) m) : EE X xr W ss e (trn (rList R)) m := h.same fun _ _ _ _ _ s hp => by
  obtain ⟨p, vs, ev, h1, ps⟩ := hp
  exact ⟨p, vs, ev, h1, ps.mono s⟩
theorem EE.tp {e : Expr} {R : RT X.K α} {m : S → Res α} (hf : Free R) (h : EE X xr W ss e (trn R) m) : EE X xr W ss e (pers R) m := h.same fun _ _ _ _ _ _ hp => hf.f hp

/-! names and constants -/
theorem ee_var {i : Nat} {x : Str} {R : RT X.K α} {g : S → Option α} {w : α → S → S} (l : LI ss i R g w) (hN : X.N[i]? = some x := by rfl) (hv : Vis X.env.scope x := by first | exact Or.inl rfl | exact Or.inr (Or.inl rfl) | exact Or.inr (Or.inr rfl))
    (hd : (x == ("__debug__" : Str)) = false := by decide) (hcd : (x == ("__classdict__" : Str)) = false := by decide) : EE X xr W ss (.Name x pos) (pers R) (cV g) := by
  refine ⟨_, pe_var hN hv hd hcd, fun F0 B F H σ s Q a hw => ?_⟩
  obtain ⟨x, e, hw⟩ := Want.opt hw
  obtain ⟨v, h1, h2⟩ := l.get a.r e
  exact ⟨v, h1, hw v F H (.refl a.fh) h2⟩
theorem ee_own {i : Nat} {x : Str} {R : RT X.K α} {g : S → Option (List α)} {w : List α → S → S} (l : LO ss i R g w) (hN : X.N[i]? = some x := by rfl) (hv : Vis X.env.scope x := by first | exact Or.inl rfl | exact Or.inr (Or.inl rfl) | exact Or.inr (Or.inr rfl))
    (hd : (x == ("__debug__" : Str)) = false := by decide) (hcd : (x == ("__classdict__" : Str)) = false := by decide) : EE X xr W ss (.Name x pos) (lst R) (cV g) := by
  refine ⟨_, pe_var hN hv hd hcd, fun F0 B F H σ s Q a hw => ?_⟩
  obtain ⟨x, e, hw⟩ := Want.opt hw
  obtain ⟨p, vs, h1, _, _, h2, _, h3, _⟩ := l.get a.r e
  exact ⟨_, h1, hw _ F H (.refl a.fh) ⟨p, vs, rfl, h2, h3⟩⟩
theorem ee_const {e : Expr} {v : V} {R : RT X.K α} {a : α} (h : PE X e (tC v)) (hr : ∀ H, R.r H v a) : EE X xr W ss e (pers R) (cK a) :=
  ⟨_, h, fun F0 B F H σ s Q at' hw => hw v F H (.refl at'.fh) (hr F)⟩
theorem ee_int {i : Int} {j : Nat} : EE X xr W ss (.Constant (.int i) j pos) (pers rInt) (cK i) := ee_const pe_int fun _ => rfl
theorem ee_bl {b : Bool} {j : Nat} : EE X xr W ss (.Constant (.bool b) j pos) (pers rBool) (cK b) := ee_const pe_bl fun _ => rfl
theorem ee_str {x : Str} {j : Nat} (hk : PySem.PyData.strOk x = true := by decide +kernel) : EE X xr W ss (.Constant (.str x) j pos) (pers rStr) (cK x) := ee_const pe_str fun _ => ⟨rfl, hk⟩
theorem ee_unit {j : Nat} : EE X xr W ss (.Constant .none j pos) (pers rUnit) (cK ()) := ee_const pe_non fun _ => rfl
theorem ee_none {j : Nat} {R : RT X.K α} : EE X xr W ss (.Constant .none j pos) (pers (rOpt R)) (cK none) := ee_const pe_non fun _ => rfl

/-! operators on two values -/
theorem bin_ {r : R2} {e1 e2 : Expr} {Pa : RK X.K V α} {Pb : RK X.K V β} {Pc : RK X.K V γ} {ma : S → Res α} {mb : S → Res β} {f : α → β → Res γ} {ta tb : TE} (da : Does xr W ss ta Pa ma) (db : Does xr W ss tb Pb mb)
    (hr : ∀ H0 F H x y a b E Q, Same H0 H → Same F H → Pa.p H0 F H x a → Pb.p H0 F H y b → Want xr Pc E H0 F H (f a b) Q → r x y H Q) :
    Does xr W ss (tOp r ta tb) Pc (b2 f ma mb) := fun F0 B F H σ s Q at0 hw => by
  refine da.go at0 hw fun a v F1 H1 _ at1 g1 p1 hw1 => ?_
  refine db.go at1 hw1 fun b u F2 H2 _ at2 g2 p2 hw2 => ?_
  exact hr H F2 H2 v u a b _ _ (g1.hh.trans g2.hh) at2.fh (Pa.st at1.fh g2 p1) (Pb.pre g1.hh p2) hw2
theorem ee_bin {op : Operator} {r : R2} {e1 e2 : Expr} {Pa : RK X.K V α} {Pb : RK X.K V β} {Pc : RK X.K V γ} {ma : S → Res α} {mb : S → Res β} {f : α → β → Res γ} (ho : OpR X (binaryOp op) r) (ea : EE X xr W ss e1 Pa ma) (eb : EE X xr W ss e2 Pb mb)
    (hr : ∀ H0 F H x y a b E Q, Same H0 H → Same F H → Pa.p H0 F H x a → Pb.p H0 F H y b → Want xr Pc E H0 F H (f a b) Q → r x y H Q) :
    EE X xr W ss (.BinOp e1 op e2 pos) Pc (b2 f ma mb) := by
  obtain ⟨ta, pa, da⟩ := ea.ex
  obtain ⟨tb, pb, db⟩ := eb.ex
  exact ⟨_, pe_op ho pa pb, bin_ (e1 := e1) (e2 := e2) da db hr⟩
theorem ee_cmp {op : CmpOp} {r : R2} {e1 e2 : Expr} {Pa : RK X.K V α} {Pb : RK X.K V β} {Pc : RK X.K V γ} {ma : S → Res α} {mb : S → Res β} {f : α → β → Res γ} (ho : OpR X (compareOp op) r) (ea : EE X xr W ss e1 Pa ma) (eb : EE X xr W ss e2 Pb mb)
    (hr : ∀ H0 F H x y a b E Q, Same H0 H → Same F H → Pa.p H0 F H x a → Pb.p H0 F H y b → Want xr Pc E H0 F H (f a b) Q → r x y H Q) (hm : behindInMarks op e2 = false := by first | exact nomark _ | rfl) :
    EE X xr W ss (.Compare e1 [op] [e2] pos) Pc (b2 f ma mb) := by
  obtain ⟨ta, pa, da⟩ := ea.ex
  obtain ⟨tb, pb, db⟩ := eb.ex
  exact ⟨_, pe_cmpR ho pa pb hm, bin_ (e1 := e1) (e2 := e2) da db hr⟩
theorem want_bool {E : XK} {H0 F H : Hp} {m : Res Bool} {Q : Bool → Hp → Prop} (h : Want xr (kB (K := X.K)) E H0 F H m Q) : Want xr (pers (K := X.K) rBool) E H0 F H m (fun x H' => ∃ k, x = V.bl k ∧ Q k H') := by
  cases m with
  | ok c => exact fun v F' H' g p => ⟨c, p, h c F' H' g rfl⟩
  | er x => exact h
  | no => exact h
theorem tj_cmp {op : CmpOp} {r : R2} {e1 e2 : Expr} {Pa : RK X.K V α} {Pb : RK X.K V β} {ma : S → Res α} {mb : S → Res β} {f : α → β → Res Bool} (ho : OpR X (compareOp op) r) (ea : EE X xr W ss e1 Pa ma) (eb : EE X xr W ss e2 Pb mb)
    (hr : ∀ H0 F H x y a b E Q, Same H0 H → Same F H → Pa.p H0 F H x a → Pb.p H0 F H y b → Want xr (pers (K := X.K) rBool) E H0 F H (f a b) Q → r x y H Q) (hm : behindInMarks op e2 = false := by first | exact nomark _ | rfl) :
    TJ X xr W ss (.Compare e1 [op] [e2] pos) (b2 f ma mb) := by
  obtain ⟨ta, pa, da⟩ := ea.ex
  obtain ⟨tb, pb, db⟩ := eb.ex
  exact ⟨_, pt_cmpR ho pa pb hm, fun F0 B F H σ s Q at0 hw => bin_ (e1 := e1) (e2 := e2) (Pc := pers rBool) da db hr _ _ _ _ _ _ _ at0 (want_bool hw)⟩
/-- a value that is a bool, as a test -/
theorem tj_val {e : Expr} {m : S → Res Bool} (h : EE X xr W ss e (pers rBool) m) (he : ∀ whole, isTrue e X.env whole = (do let v ← whole; standAt e.pos; holding [v] (truthy v)) := by intro _; rfl) : TJ X xr W ss e m := by
  obtain ⟨te, p, d⟩ := h.ex
  exact ⟨_, pt_val p he, fun F0 B F H σ s Q at0 hw => d _ _ _ _ _ _ _ at0 (want_bool hw)⟩
theorem tj_not {e : Expr} {m : S → Res Bool} (h : TJ X xr W ss e m) : TJ X xr W ss (.UnaryOp .Not e pos) (notR m) := by
  obtain ⟨te, p, d⟩ := h.ex
  refine ⟨_, pt_not p, fun F0 B F H σ s Q at0 hw => ?_⟩
  refine d.go at0 hw fun b v F1 H1 _ at1 g1 p1 hw1 => ?_
  cases p1
  exact hw1.here at1.fh rfl
theorem tw_and1 {e : Expr} {m : S → Res Bool} (h : TJ X xr W ss e m) : TW X xr W ss (.BoolOp .And [e] pos) m := let ⟨t, p, d⟩ := h.ex; ⟨t, pw_and1 p, d⟩
theorem tw_or1 {e : Expr} {m : S → Res Bool} (h : TJ X xr W ss e m) : TW X xr W ss (.BoolOp .Or [e] pos) m := let ⟨t, p, d⟩ := h.ex; ⟨t, pw_or1 p, d⟩
theorem TW.tj {e : Expr} {m : S → Res Bool} (h : TW X xr W ss e m) : TJ X xr W ss e m := let ⟨t, p, d⟩ := h.ex; ⟨t, p.pt, d⟩
theorem tw_and {a b : Expr} {rest : List Expr} {m m' : S → Res Bool} (h : TJ X xr W ss a m) (h' : TW X xr W ss (.BoolOp .And (b :: rest) pos) m') : TW X xr W ss (.BoolOp .And (a :: b :: rest) pos) (andR m m') := by
  obtain ⟨t, p, d⟩ := h.ex
  obtain ⟨t', p', d'⟩ := h'.ex
  refine ⟨_, pw_and p p', fun F0 B F H σ s Q at0 hw => ?_⟩
  refine d.go at0 hw fun c v F1 H1 _ at1 g1 p1 hw1 => ?_
  cases p1
  cases c with
  | true =>
    rw [if_pos rfl] at hw1 ⊢
    exact d' _ _ _ _ _ _ _ at1 (hw1.late g1.hh)
  | false =>
    rw [if_neg Bool.false_ne_true] at hw1 ⊢
    exact hw1.here at1.fh rfl
theorem tw_or {a b : Expr} {rest : List Expr} {m m' : S → Res Bool} (h : TJ X xr W ss a m) (h' : TW X xr W ss (.BoolOp .Or (b :: rest) pos) m') : TW X xr W ss (.BoolOp .Or (a :: b :: rest) pos) (orR m m') := by
  obtain ⟨t, p, d⟩ := h.ex
  obtain ⟨t', p', d'⟩ := h'.ex
  refine ⟨_, pw_or p p', fun F0 B F H σ s Q at0 hw => ?_⟩
  refine d.go at0 hw fun c v F1 H1 _ at1 g1 p1 hw1 => ?_
  cases p1
  cases c with
  | true =>
    rw [if_pos rfl] at hw1 ⊢
    exact hw1.here at1.fh rfl
  | false =>
    rw [if_neg Bool.false_ne_true] at hw1 ⊢
    exact d' _ _ _ _ _ _ _ at1 (hw1.late g1.hh)
/-- and, or, not as values -/
theorem ee_one {op : BoolOp} {e : Expr} {P : RK X.K V α} {m : S → Res α} (h : EE X xr W ss e P m) : EE X xr W ss (.BoolOp op [e] pos) P m := let ⟨t, p, d⟩ := h.ex; ⟨t, pe_one p, d⟩
theorem ee_and {a b : Expr} {rest : List Expr} {m m' : S → Res Bool} (h : EE X xr W ss a (pers rBool) m) (h' : EE X xr W ss (.BoolOp .And (b :: rest) pos) (pers rBool) m') : EE X xr W ss (.BoolOp .And (a :: b :: rest) pos) (pers rBool) (andR m m') := by
  obtain ⟨t, p, d⟩ := h.ex
  obtain ⟨t', p', d'⟩ := h'.ex
  refine ⟨_, pe_and p p', fun F0 B F H σ s Q at0 hw => ?_⟩
  refine d.go at0 hw fun c v F1 H1 _ at1 g1 p1 hw1 => ⟨c, p1, ?_⟩
  cases c with
  | true =>
    rw [if_pos rfl] at hw1 ⊢
    exact d' _ _ _ _ _ _ _ at1 (hw1.late g1.hh)
  | false =>
    rw [if_neg Bool.false_ne_true] at hw1 ⊢
    exact hw1.here at1.fh rfl
theorem ee_or {a b : Expr} {rest : List Expr} {m m' : S → Res Bool} (h : EE X xr W ss a (pers rBool) m) (h' : EE X xr W ss (.BoolOp .Or (b :: rest) pos) (pers rBool) m') : EE X xr W ss (.BoolOp .Or (a :: b :: rest) pos) (pers rBool) (orR m m') := by
  obtain ⟨t, p, d⟩ := h.ex
  obtain ⟨t', p', d'⟩ := h'.ex
  refine ⟨_, pe_or p p', fun F0 B F H σ s Q at0 hw => ?_⟩
  refine d.go at0 hw fun c v F1 H1 _ at1 g1 p1 hw1 => ⟨c, p1, ?_⟩
  cases c with
  | true =>
    rw [if_pos rfl] at hw1 ⊢
    exact hw1.here at1.fh rfl
  | false =>
    rw [if_neg Bool.false_ne_true] at hw1 ⊢
    exact d' _ _ _ _ _ _ _ at1 (hw1.late g1.hh)
theorem ee_not {a : Expr} {m : S → Res Bool} (h : EE X xr W ss a (pers rBool) m) : EE X xr W ss (.UnaryOp .Not a pos) (pers rBool) (notR m) := by
  obtain ⟨t, p, d⟩ := h.ex
  refine ⟨_, pe_not p, fun F0 B F H σ s Q at0 hw => ?_⟩
  refine d.go at0 hw fun c v F1 H1 _ at1 g1 p1 hw1 => ⟨c, p1, ?_⟩
  exact hw1.here at1.fh rfl
theorem ee_if {c a b : Expr} {P : RK X.K V α} {mc : S → Res Bool} {ma mb : S → Res α} (hc : TJ X xr W ss c mc) (ha : EE X xr W ss a P ma) (hb : EE X xr W ss b P mb) : EE X xr W ss (.IfExp c a b pos) P (ifR mc ma mb) := by
  obtain ⟨t, p, d⟩ := hc.ex
  obtain ⟨ta, pa, da⟩ := ha.ex
  obtain ⟨tb, pb, db⟩ := hb.ex
  refine ⟨_, pe_ifExp p pa pb, fun F0 B F H σ s Q at0 hw => ?_⟩
  refine d.go at0 hw fun k v F1 H1 _ at1 g1 p1 hw1 => ?_
  cases p1
  cases k with
  | true =>
    rw [if_pos rfl] at hw1 ⊢
    exact da _ _ _ _ _ _ _ at1 (hw1.late g1.hh)
  | false =>
    rw [if_neg Bool.false_ne_true] at hw1 ⊢
    exact db _ _ _ _ _ _ _ at1 (hw1.late g1.hh)

/-! argument lists; the items of a written list, of a tuple -/
def kL {K : PySem.W.Frag} (R : RT K α) (n : Nat) : RK K (List V) (List α) := ⟨fun _ F _ vs as => Ps R F vs as ∧ vs.length = n, fun s g h => ⟨h.1.mono (g.ff s), h.2⟩, fun _ h => h⟩

theorem aa_nil : AA X xr W ss [] aN aNil := ⟨_, pa_nil, fun F0 B F H σ s Q at0 hw => hw [] F H (.refl at0.fh) rfl⟩
theorem aa_cons {e : Expr} {es : List Expr} {P : RK X.K V α} {R : RK X.K (List V) A} {m : S → Res α} {m' : S → Res A} (h : EE X xr W ss e P m) (h' : AA X xr W ss es R m') (hs : starEach (e :: es) X.env = (false, eval e X.env) :: starEach es X.env := by rfl) :
    AA X xr W ss (e :: es) (aC P R) (aCons m m') := by
  obtain ⟨t, p, d⟩ := h.ex
  obtain ⟨t', p', d'⟩ := h'.ex
  refine ⟨_, pa_cons p p' hs, fun F0 B F H σ s Q at0 hw => ?_⟩
  refine d.go at0 hw fun a v F1 H1 _ at1 g1 p1 hw1 => ?_
  refine d'.go at1 hw1 fun b u F2 H2 _ at2 g2 p2 hw2 => ?_
  exact hw2.here at2.fh ⟨v, u, rfl, P.st at1.fh g2 p1, R.pre g1.hh p2⟩
theorem ll_nil {R : RT X.K α} : AA X xr W ss [] (kL R 0) lNil := ⟨_, pa_nil, fun F0 B F H σ s Q at0 hw => hw [] F H (.refl at0.fh) ⟨.nil, rfl⟩⟩
theorem ll_cons {n : Nat} {e : Expr} {es : List Expr} {R : RT X.K α} {m : S → Res α} {m' : S → Res (List α)} (h : EE X xr W ss e (pers R) m) (h' : AA X xr W ss es (kL R n) m') (hs : starEach (e :: es) X.env = (false, eval e X.env) :: starEach es X.env := by rfl) :
    AA X xr W ss (e :: es) (kL R (n + 1)) (lCons m m') := by
  obtain ⟨t, p, d⟩ := h.ex
  obtain ⟨t', p', d'⟩ := h'.ex
  refine ⟨_, pa_cons p p' hs, fun F0 B F H σ s Q at0 hw => ?_⟩
  refine d.go at0 hw fun a v F1 H1 _ at1 g1 p1 hw1 => ?_
  refine d'.go at1 hw1 fun b u F2 H2 _ at2 g2 p2 hw2 => ?_
  exact hw2.here at2.fh ⟨.cons (R.mono (g2.ff at1.fh) p1) p2.1, congrArg (· + 1) p2.2⟩
theorem ee_lst {n : Nat} {es : List Expr} {R : RT X.K α} {m : S → Res (List α)} (h : AA X xr W ss es (kL R n) m) (hn : n ≤ 1000 := by decide) : EE X xr W ss (.List es pos) (fre R) m := by
  obtain ⟨t, p, d⟩ := h.ex
  refine ⟨_, pe_lst p, fun F0 B F H σ s Q at0 hw => d _ _ _ _ _ _ _ at0 ?_⟩
  cases e : m s with
  | ok as =>
    rw [e] at hw
    intro vs F1 H1 g hp
    refine ⟨Nat.le_trans (by rw [hp.2]; exact hn) (by decide), fun q hq => hw _ F1 _ (g.trans (.newH g.fh hq)) ⟨q, vs, rfl, g.hh.free hq, upd_same, g.fh.free hq, hp.1⟩⟩
  | er x =>
    rw [e] at hw
    exact hw
  | no =>
    rw [e] at hw
    exact hw
/-- tuples, by what stands at their places -/
structure TR (K : PySem.W.Frag) (α : Type) where
  r : Hp → List V → α → Prop
  mono : ∀ {H H' : Hp} {v : List V} {a : α}, Same H H' → r H v a → r H' v a
def t1 {K : PySem.W.Frag} (R : RT K α) : TR K α := ⟨fun H vs a => ∃ v, vs = [v] ∧ R.r H v a, fun s h => by
  obtain ⟨v, e, h⟩ := h
  exact ⟨v, e, R.mono s h⟩⟩
def tC {K : PySem.W.Frag} (R : RT K α) (T : TR K β) : TR K (α × β) := ⟨fun H vs a => ∃ v r, vs = v :: r ∧ R.r H v a.1 ∧ T.r H r a.2, fun s h => by
  obtain ⟨v, r, e, h, t⟩ := h
  exact ⟨v, r, e, R.mono s h, T.mono s t⟩⟩
def rTup {K : PySem.W.Frag} (T : TR K α) : RT K α := ⟨fun H v a => ∃ p vs, v = .ref p ∧ H p = some (.tup vs) ∧ T.r H vs a, fun s h => by
  obtain ⟨p, vs, e, h, t⟩ := h
  exact ⟨p, vs, e, s.k h, T.mono s t⟩⟩
def kT {K : PySem.W.Frag} (T : TR K α) (n : Nat) : RK K (List V) α := ⟨fun _ F _ vs a => T.r F vs a ∧ vs.length = n, fun s g h => ⟨T.mono (g.ff s) h.1, h.2⟩, fun _ h => h⟩
def tOne (m : S → Res α) : S → Res α := fun s => (m s).bind fun a => .ok a
theorem tt_one {e : Expr} {R : RT X.K α} {m : S → Res α} (h : EE X xr W ss e (pers R) m) (hs : starEach [e] X.env = (false, eval e X.env) :: starEach [] X.env := by rfl) : AA X xr W ss [e] (kT (t1 R) 1) (tOne m) := by
  obtain ⟨t, p, d⟩ := h.ex
  refine ⟨_, pa_cons p pa_nil hs, fun F0 B F H σ s Q at0 hw => ?_⟩
  refine d.go at0 hw fun a v F1 H1 _ at1 g1 p1 hw1 => ?_
  exact hw1.here at1.fh ⟨⟨v, rfl, p1⟩, rfl⟩
theorem tt_cons {n : Nat} {e : Expr} {es : List Expr} {R : RT X.K α} {T : TR X.K β} {m : S → Res α} {m' : S → Res β} (h : EE X xr W ss e (pers R) m) (h' : AA X xr W ss es (kT T n) m') (hs : starEach (e :: es) X.env = (false, eval e X.env) :: starEach es X.env := by rfl) :
    AA X xr W ss (e :: es) (kT (tC R T) (n + 1)) (aCons m m') := by
  obtain ⟨t, p, d⟩ := h.ex
  obtain ⟨t', p', d'⟩ := h'.ex
  refine ⟨_, pa_cons p p' hs, fun F0 B F H σ s Q at0 hw => ?_⟩
  refine d.go at0 hw fun a v F1 H1 _ at1 g1 p1 hw1 => ?_
  refine d'.go at1 hw1 fun b u F2 H2 _ at2 g2 p2 hw2 => ?_
  exact hw2.here at2.fh ⟨⟨v, u, rfl, R.mono (g2.ff at1.fh) p1, p2.1⟩, congrArg (· + 1) p2.2⟩
theorem ee_tup {n k : Nat} {es : List Expr} {T : TR X.K α} {m : S → Res α} (h : AA X xr W ss es (kT T n) m) (hn : n ≤ 1000 := by decide) : EE X xr W ss (.Tuple es k pos) (pers (rTup T)) m := by
  obtain ⟨t, p, d⟩ := h.ex
  refine ⟨_, pe_tup p, fun F0 B F H σ s Q at0 hw => d _ _ _ _ _ _ _ at0 ?_⟩
  cases e : m s with
  | ok as =>
    rw [e] at hw
    intro vs F1 H1 g hp
    refine ⟨Nat.le_trans (by rw [hp.2]; exact hn) (by decide), fun q hq => hw _ _ _ (g.trans (.new g.fh hq)) ⟨q, vs, rfl, upd_same, T.mono (same_new (g.fh.free hq)) hp.1⟩⟩
  | er x =>
    rw [e] at hw
    exact hw
  | no =>
    rw [e] at hw
    exact hw
end
end Y


set_option Elab.async false
set_option linter.all false
set_option autoImplicit false
set_option maxRecDepth 100000
set_option maxHeartbeats 2000000
/-! Y3: statements, loops, comprehensions, calls, defs. -/
namespace Y
open PySem PySem.Spec PyProof.Rows L2

/-! ### the mirrors' words -/
section
variable {S S' S1 α β γ A ρ : Type}
def oNx : S → Out S ρ := fun s => .nx s
def oSet (w : α → S → S') (m : S → Res α) : S → Out S' ρ := fun s => (m s).out fun a => .nx (w a s)
def oRet (m : S → Res ρ) : S → Out S' ρ := fun s => (m s).out .rt
def oExp (m : S → Res α) : S → Out S ρ := fun s => (m s).out fun _ => .nx s
def oIf (c : S → Res Bool) (ma mb : S → Out S' ρ) : S → Out S' ρ := fun s => (c s).out fun k => if k = true then ma s else mb s
def oSeq (m : S → Out S1 ρ) (k : S1 → Out S' ρ) : S → Out S' ρ := fun s => (m s).seq k
def forM (f : α → S → Out S ρ) : List α → S → Out S ρ
  | [], s => .nx s
  | a :: as, s => (f a s).seq (forM f as)
def oFor (mi : S → Res (List α)) (w : α → S → S) (mb : S → Out S ρ) : S → Out S ρ := fun s => (mi s).out fun as => forM (fun a s => mb (w a s)) as s
def whileM (c : S → Res Bool) (mb : S → Out S ρ) : Nat → S → Out S ρ
  | 0, _ => .no
  | n + 1, s => (c s).out fun k => if k = true then (mb s).seq (whileM c mb n) else .nx s
/-- xs.append(e) -/
def appR (as : List α) (a : α) : Res (List α) := guardR (decide (as.length < 16777216)) (as ++ [a])
def oApp (g : S → Option (List α)) (w : List α → S → S) (m : S → Res α) : S → Out S ρ := fun s => (ofOpt (g s)).out fun as => (m s).out fun a => (appR as a).out fun as' => .nx (w as' s)
def oAug (f : α → β → Res γ) (g : S → Option α) (w : γ → S → S) (m : S → Res β) : S → Out S ρ := fun s => ((ofOpt (g s)).bind fun a => (m s).bind fun b => f a b).out fun c => .nx (w c s)
/-- a comprehension's turns: nothing is raised there -/
def Res.calm (m : Res α) : Res α := match m with
  | .ok a => .ok a
  | _ => .no
def compM (c : α → Res Bool) (f : α → Res β) : List α → Res (List β)
  | [] => .ok []
  | a :: as => (c a).calm.bind fun k => if k = true then (f a).calm.bind fun y => (compM c f as).bind fun ys => .ok (y :: ys) else compM c f as
def cComp (mi : S → Res (List α)) (w : α → S → S) (mc : S → Res Bool) (me : S → Res β) : S → Res (List β) := fun s => (mi s).bind fun as => (guardR (decide (as.length ≤ 16777216)) as).bind fun as => compM (fun a => mc (w a s)) (fun a => me (w a s)) as
def cCall (f : A → Res ρ) (m : S → Res A) : S → Res ρ := fun s => (m s).bind f
end

section
variable [TabC] {X : Cx} {S S' S1 α β γ A ρ : Type} {xr : XR} {W : WX} {ss : SS X.K S} {ss' : SS X.K S'} {ss1 : SS X.K S1} {pos : Pos} {P : RK X.K V ρ}
structure S1J (X : Cx) (xr : XR) (W : WX) (ss : SS X.K S) (st : Stmt) (ss' : SS X.K S') (P : RK X.K V ρ) (m : S → Out S' ρ) : Prop where
  ex : ∃ t, PS X st t ∧ DoesS xr W ss ss' P t m
structure SJ (X : Cx) (xr : XR) (W : WX) (ss : SS X.K S) (st : List Stmt) (ss' : SS X.K S') (P : RK X.K V ρ) (m : S → Out S' ρ) : Prop where
  ex : ∃ t, PSs X st t ∧ DoesS xr W ss ss' P t m
theorem At.seen {F0 B F H : Hp} {σ : St} {s : S} (a : At ss F0 B F H σ s) : Same B H := a.g.hh
theorem sj_nil : SJ X xr W ss [] ss P oNx := ⟨_, pss_nil, fun F0 B F H σ s D a h => h F H σ (.refl F) a⟩
theorem sj_cons {st : Stmt} {rest : List Stmt} {m : S → Out S1 ρ} {k : S1 → Out S' ρ} (h1 : S1J X xr W ss st ss1 P m) (h2 : SJ X xr W ss1 rest ss' P k) : SJ X xr W ss (st :: rest) ss' P (oSeq m k) := by
  obtain ⟨t, p, d⟩ := h1.ex
  obtain ⟨t', p', d'⟩ := h2.ex
  refine ⟨_, pss_cons p p', fun F0 B F H σ s D a h => d _ _ _ _ _ _ _ a ?_⟩
  have h : WantS ss' P xr W F0 B F ((m s).seq k) D := h
  cases e : m s with
  | nx s1 =>
    rw [e] at h
    exact fun F' H' σ' sm a' => d' _ _ _ _ _ _ _ a' (WantS.shift h sm)
  | rt r =>
    rw [e] at h
    exact h
  | er x =>
    rw [e] at h
    exact h
  | no =>
    rw [e] at h
    exact h.elim
theorem sj_one {st : Stmt} {m : S → Out S' ρ} (h : S1J X xr W ss st ss' P m) : SJ X xr W ss [st] ss' P m := let ⟨t, p, d⟩ := h.ex; ⟨t, pss_one p, d⟩
/-- behind a return nothing more is walked -/
theorem s1_pass : S1J X xr W ss (.Pass pos) ss P oNx := ⟨_, ps_pass, fun F0 B F H σ s D a h => h F H σ (.refl F) a⟩
theorem s1_set {i : Nat} {x : Str} {e : Expr} {R : RT X.K α} {g : S → Option α} {w : α → S → S} {m : S → Res α} {pos' : Pos} (l : LI ss i R g w) (he : EE X xr W ss e (pers R) m) (hN : X.N.Nodup) (hi : X.N[i]? = some x := by rfl) (hx : Loc X.env.scope x := by first | exact Or.inl rfl | exact Or.inr rfl)
    (hs : swapsWith e (some (.Name x pos')) pos.line X.env = pure false := by rfl) (hf : X.fn x = true ∨ X.env.scope.names.lookup x = some .local := by first | exact Or.inl rfl | exact Or.inr rfl) : S1J X xr W ss (.Assign [.Name x pos'] e pos) ss P (oSet w m) := by
  obtain ⟨t, p, d⟩ := he.ex
  refine ⟨_, ps_set hN hi hx p hs hf, fun F0 B F H σ s D a h => ?_⟩
  refine d.goS a h fun x v F1 H1 _ at1 g1 p1 hw1 => ?_
  exact hw1 F1 H1 _ (.refl F1) ⟨at1.g, at1.t, l.set at1.r p1⟩
theorem s1_setO {i : Nat} {x : Str} {e : Expr} {R : RT X.K α} {g : S → Option (List α)} {w : List α → S → S} {m : S → Res (List α)} {pos' : Pos} (l : LO ss i R g w) (he : EE X xr W ss e (fre R) m) (hN : X.N.Nodup) (hi : X.N[i]? = some x := by rfl) (hx : Loc X.env.scope x := by first | exact Or.inl rfl | exact Or.inr rfl)
    (hs : swapsWith e (some (.Name x pos')) pos.line X.env = pure false := by rfl) (hf : X.fn x = true ∨ X.env.scope.names.lookup x = some .local := by first | exact Or.inl rfl | exact Or.inr rfl) : S1J X xr W ss (.Assign [.Name x pos'] e pos) ss P (oSet w m) := by
  obtain ⟨t, p, d⟩ := he.ex
  refine ⟨_, ps_set hN hi hx p hs hf, fun F0 B F H σ s D a h => ?_⟩
  refine d.goS a h fun x v F1 H1 _ at1 g1 p1 hw1 => ?_
  obtain ⟨q, vs, rfl, q1, q2, q3, q4⟩ := p1
  exact hw1 F1 H1 _ (.refl F1) ⟨at1.g, at1.t, l.set a.r a.fh g1 (a.seen.free q1) q1 q2 q3 q4 (fun z => nomatch z)⟩
theorem s1_ret {e : Expr} {m : S → Res ρ} (he : EE X xr W ss e P m) : S1J X xr W ss (.Return (some e) pos) ss' P (oRet m) := by
  obtain ⟨t, p, d⟩ := he.ex
  refine ⟨_, ps_ret p, fun F0 B F H σ s D a h => ?_⟩
  refine d.goS a h fun x v F1 H1 _ at1 g1 p1 hw1 => ?_
  exact hw1 v F1 H1 at1.g (P.pre a.seen p1)
theorem s1_retN {P : RK X.K V Unit} (hP : ∀ H0 F H, P.p H0 F H .non ()) : S1J X xr W ss (.Return none pos) ss' P (oRet (cK ())) :=
  ⟨_, ps_retN, fun F0 B F H σ s D a h => h .non F H a.g (hP _ _ _)⟩
theorem s1_expr {e : Expr} {P' : RK X.K V α} {m : S → Res α} (he : EE X xr W ss e P' m) (hs : swapsWith e none pos.line X.env = pure false := by rfl) : S1J X xr W ss (.Expr e pos) ss P (oExp m) := by
  obtain ⟨t, p, d⟩ := he.ex
  refine ⟨_, ps_expr p hs, fun F0 B F H σ s D a h => ?_⟩
  refine d.goS a h fun x v F1 H1 _ at1 g1 p1 hw1 => ?_
  exact hw1 F1 H1 σ (.refl F1) at1
theorem s1_if {c : Expr} {a b : List Stmt} {mc : S → Res Bool} {ma mb : S → Out S' ρ} (hc : TJ X xr W ss c mc) (ha : SJ X xr W ss a ss' P ma) (hb : SJ X xr W ss b ss' P mb) : S1J X xr W ss (.If c a b pos) ss' P (oIf mc ma mb) := by
  obtain ⟨t, p, d⟩ := hc.ex
  obtain ⟨ta, pa, da⟩ := ha.ex
  obtain ⟨tb, pb, db⟩ := hb.ex
  refine ⟨_, ps_if p pa pb, fun F0 B F H σ s D a h => ?_⟩
  refine d.goS a h fun k v F1 H1 _ at1 g1 p1 hw1 => ?_
  cases p1
  cases k with
  | true =>
    rw [if_pos rfl] at hw1 ⊢
    exact da _ _ _ _ _ _ _ at1 hw1
  | false =>
    rw [if_neg Bool.false_ne_true] at hw1 ⊢
    exact db _ _ _ _ _ _ _ at1 hw1
/-- an if that ends its def where it is true: what follows is its else -/
theorem s1_append {i : Nat} {x : Str} {e : Expr} {R : RT X.K α} {g : S → Option (List α)} {w : List α → S → S} {m : S → Res α} {p1 p2 p3 : Pos} (l : LO ss i R g w) (he : EE X xr W ss e (pers R) m) (hN : X.N[i]? = some x := by rfl) (hv : Vis X.env.scope x := by first | exact Or.inl rfl | exact Or.inr (Or.inl rfl) | exact Or.inr (Or.inr rfl))
    (hd : (x == ("__debug__" : Str)) = false := by decide) (hcd : (x == ("__classdict__" : Str)) = false := by decide) (hl : (p2.endLine == p3.line) = true := by rfl) (hs : starEach [e] X.env = (false, eval e X.env) :: starEach [] X.env := by rfl)
    (hm : ∀ (te : TE), PE X e te → PE X (.Call (.Attribute (.Name x p1) "append" p2) [e] [] p3) (tBM X.K "list" rAppend (tVar i) (tCons te tNil)) := by exact fun te h => pe_bm PySem.F.plainAttrs_list PySem.F.slot_list_append PySem.F.type_list_append mt_append (pv _) (pa_cons h pa_nil))
    (hs : swapsWith (.Call (.Attribute (.Name x p1) "append" p2) [e] [] p3) none pos.line X.env = pure false := by rfl) :
    S1J X xr W ss (.Expr (.Call (.Attribute (.Name x p1) "append" p2) [e] [] p3) pos) ss P (oApp g w m) := by
  obtain ⟨t, p, d⟩ := he.ex
  refine ⟨_, ps_expr (hm t p) hs, fun F0 B F H σ s D a h => ?_⟩
  obtain ⟨as, eg, h⟩ := WantS.opt h
  obtain ⟨q, vs, e1, e2, e3, e4, e5, e6, e7⟩ := l.get a.r eg
  refine ⟨_, e1, .inl ⟨rfl, _, .inl (.inl e4)⟩, ?_⟩
  refine d.goS a h fun y v F1 H1 _ at1 g1 p1 hw1 => ?_
  obtain ⟨hc, hw1⟩ := WantS.grd hw1
  have hc : as.length < 16777216 := of_decide_eq_true hc
  obtain ⟨q', vs', f1, f2, f3, f4, f5, f6, f7⟩ := l.get at1.r eg
  have eq : q' = q := by
    rw [e1] at f1
    cases f1
    rfl
  subst eq
  refine ⟨q', vs', v, rfl, rfl, f4, by rw [sizeLine_eq, show vs'.length = as.length from Paired.length f6]; exact hc, ?_⟩
  exact hw1 F1 _ σ (.refl F1) ⟨at1.g.change f2 f5 f4, at1.t, f7 _ _ (Paired.app f6 (.cons p1 .nil))⟩
theorem s1_aug {i : Nat} {x : Str} {e : Expr} {op : Operator} {ti : TIp} {R : RT X.K α} {P' : RK X.K V β} {g : S → Option α} {w : α → S → S} {f : α → β → Res α} {m : S → Res β} {pos' : Pos} (l : LI ss i R g w) (ho : PIp X op ti) (he : EE X xr W ss e P' m)
    (hr : ∀ H0 F H x y a b E Q, Same H0 H → Same F H → R.r F x a → P'.p H0 F H y b → Want xr (pers R) E H0 F H (f a b) Q → ti x y H Q)
    (hN : X.N.Nodup) (hi : X.N[i]? = some x := by rfl) (hx : Loc X.env.scope x := by first | exact Or.inl rfl | exact Or.inr rfl) (hf : X.fn x = true ∨ X.env.scope.names.lookup x = some .local := by first | exact Or.inl rfl | exact Or.inr rfl) :
    S1J X xr W ss (.AugAssign (.Name x pos') op e pos) ss P (oAug f g w m) := by
  obtain ⟨t, p, d⟩ := he.ex
  refine ⟨_, ps_aug hN hi hx p ho hf, fun F0 B F H σ s D a h => ?_⟩
  have h : WantS ss P xr W F0 B F ((ofOpt (g s)).out fun a => (m s).out fun b => (f a b).out fun c => .nx (w c s)) D := by
    have h : WantS ss P xr W F0 B F (((ofOpt (g s)).bind fun a => (m s).bind fun b => f a b).out fun c => .nx (w c s)) D := h
    cases eg : g s with
    | none =>
      rw [eg] at h
      exact h
    | some a =>
      rw [eg] at h
      show WantS ss P xr W F0 B F ((m s).out fun b => (f a b).out fun c => .nx (w c s)) D
      have h : WantS ss P xr W F0 B F (((m s).bind fun b => f a b).out fun c => .nx (w c s)) D := h
      cases em : m s <;> (rw [em] at h; exact h)
  obtain ⟨y, eg, h⟩ := WantS.opt h
  obtain ⟨v, e1, e2⟩ := l.get a.r eg
  refine ⟨v, e1, ?_⟩
  refine d.goS a h fun b u F1 H1 _ at1 g1 p1 hw1 => ?_
  refine hr H F1 H1 v u y b (WE W σ) _ g1.hh at1.fh (R.mono (g1.ff a.fh) e2) p1 ?_
  cases ef : f y b with
  | ok c =>
    rw [ef] at hw1
    exact fun z F2 H2 g2 p2 => hw1 F2 H2 _ (g2.ff at1.fh) ⟨at1.g.trans g2, at1.t, l.set (at1.grow g2).r p2⟩
  | er x =>
    rw [ef] at hw1
    exact fun cls dd H' sm q => hw1 cls dd σ H' (at1.g.ht.trans sm) (xr.pre at1.seen q)
  | no =>
    rw [ef] at hw1
    exact hw1.elim

/-! ### targets -/
def sets : List (Nat × V) → St → St
  | [], σ => σ
  | p :: ps, σ => sets ps (σ.set p.1 (some p.2))
omit [TabC] in
theorem sets_get : ∀ (ps : List (Nat × V)) {σ σ' : St} (k : Nat), σ.length = σ'.length → (k ∉ ps.map (·.1) → σ[k]? = σ'[k]?) → (sets ps σ)[k]? = (sets ps σ')[k]?
  | [], σ, σ', k, _, h => h (by simp)
  | p :: ps, σ, σ', k, hl, h => by
    refine sets_get ps k (by simpa using hl) fun hk => ?_
    by_cases e : p.1 = k
    · subst e
      by_cases hb : p.1 < σ.length
      · rw [List.getElem?_set_self hb, List.getElem?_set_self (by omega)]
      · rw [List.getElem?_eq_none (by simpa using hb), List.getElem?_eq_none (by simpa using (by omega : σ'.length ≤ p.1))]
    · rw [List.getElem?_set_ne e, List.getElem?_set_ne e]
      exact h (by simp only [List.map_cons, List.mem_cons, not_or]; exact ⟨fun z => e z.symm, hk⟩)
omit [TabC] in
theorem wipe_get (σ : St) : ∀ (vs : List Nat) (k : Nat), k ∉ vs → (wipe σ vs)[k]? = σ[k]?
  | [], _, _ => rfl
  | v :: vs, k, h => by
    unfold wipe
    simp only [List.mem_cons, not_or] at h
    rw [List.getElem?_set_ne fun z => h.1 z.symm]
    exact wipe_get σ vs k h.2
omit [TabC] in
theorem wipe_in (σ : St) : ∀ (vs : List Nat) (k : Nat), k ∈ vs → (wipe σ vs)[k]? = if k < σ.length then some none else none
  | v :: vs, k, h => by
    unfold wipe
    by_cases e : v = k
    · subst e
      by_cases hb : v < σ.length
      · rw [List.getElem?_set_self (by rw [wipe_length]; exact hb), if_pos hb]
      · rw [List.getElem?_eq_none (by rw [List.length_set, wipe_length]; omega), if_neg hb]
    · rw [List.getElem?_set_ne e]
      rcases List.mem_cons.mp h with z | z
      · exact absurd z.symm e
      · exact wipe_in σ vs k z
omit [TabC] in
theorem sets_length : ∀ (ps : List (Nat × V)) (σ : St), (sets ps σ).length = σ.length
  | [], _ => rfl
  | p :: ps, σ => by
    unfold sets
    rw [sets_length ps, List.length_set]
omit [TabC] in
theorem sets_out : ∀ (ps : List (Nat × V)) (σ : St) (k : Nat), k ∉ ps.map (·.1) → (sets ps σ)[k]? = σ[k]?
  | [], _, _, _ => rfl
  | p :: ps, σ, k, h => by
    simp only [List.map_cons, List.mem_cons, not_or] at h
    unfold sets
    rw [sets_out ps _ k h.2, List.getElem?_set_ne fun z => h.1 z.symm]
omit [TabC] in
theorem sets_wipe (ps : List (Nat × V)) (σ : St) : sets ps (wipe σ (ps.map (·.1))) = sets ps σ := by
  refine List.ext_getElem? fun k => sets_get ps k (wipe_length σ _) fun hk => wipe_get σ _ k hk
omit [TabC] in
theorem wipe_sets (ps : List (Nat × V)) (σ : St) : wipe (sets ps σ) (ps.map (·.1)) = wipe σ (ps.map (·.1)) := by
  refine List.ext_getElem? fun k => ?_
  by_cases h : k ∈ ps.map (·.1)
  · rw [wipe_in _ _ _ h, wipe_in _ _ _ h, sets_length]
  · rw [wipe_get _ _ _ h, wipe_get _ _ _ h, sets_out _ _ _ h]
omit [TabC] in
theorem sets_app : ∀ (ps qs : List (Nat × V)) (σ : St), sets (ps ++ qs) σ = sets qs (sets ps σ)
  | [], _, _ => rfl
  | p :: ps, qs, σ => sets_app ps qs _
/-- what a target stores -/
structure TJG (X : Cx) (ss : SS X.K S) (tg : Expr) (R : RT X.K α) (w : α → S → S) (vs : List Nat) : Prop where
  ex : ∃ g, PG X tg g ∧ ∀ B F H σ s v a, ss.rel B [] F H σ s → Same F H → R.r F v a → ∃ ps : List (Nat × V), ps.map (·.1) = vs ∧ ss.rel B [] F H (sets ps σ) (w a s) ∧ ∀ σ0 (Q : St → Hp → Prop), Q (sets ps σ0) H → g v σ0 H Q
structure TJS (X : Cx) (ss : SS X.K S) (ts : List Expr) (T : TR X.K α) (w : α → S → S) (vs : List Nat) (n : Nat) : Prop where
  ex : ∃ g, PGs X ts g ∧ ∀ B F H σ s xs a, ss.rel B [] F H σ s → Same F H → T.r F xs a → xs.length = n ∧ ∃ ps : List (Nat × V), ps.map (·.1) = vs ∧ ss.rel B [] F H (sets ps σ) (w a s) ∧ ∀ σ0 (Q : St → Hp → Prop), Q (sets ps σ0) H → g xs σ0 H Q
theorem tg_name {i : Nat} {x : Str} {R : RT X.K α} {g : S → Option α} {w : α → S → S} (l : LI ss i R g w) (hN : X.N.Nodup) (hi : X.N[i]? = some x := by rfl) (hx : Loc X.env.scope x := by first | exact Or.inl rfl | exact Or.inr rfl)
    (hf : X.fn x = true ∨ X.env.scope.names.lookup x = some .local := by first | exact Or.inl rfl | exact Or.inr rfl) : TJG X ss (.Name x pos) R w [i] :=
  ⟨_, pg_name hN hi hx hf, fun B F H σ s v a h _ r => ⟨[(i, v)], rfl, l.set h r, fun σ0 Q q => q⟩⟩
def wPair (w : α → S → S) (w' : β → S → S) : α × β → S → S := fun a s => w' a.2 (w a.1 s)
theorem ts_one {t : Expr} {R : RT X.K α} {w : α → S → S} {vs : List Nat} (h : TJG X ss t R w vs) (hs : (assignEach [t] X.env).map (·.2) = assign t X.env :: (assignEach [] X.env).map (·.2) := by rfl) : TJS X ss [t] (t1 R) w vs 1 := by
  obtain ⟨g, p, d⟩ := h.ex
  refine ⟨_, pgs_cons p pgs_nil hs, fun B F H σ s xs a h sm r => ?_⟩
  obtain ⟨v, rfl, r⟩ := r
  obtain ⟨ps, e, r2, k⟩ := d B F H σ s v a h sm r
  exact ⟨rfl, ps, e, r2, fun σ0 Q q => ⟨v, [], rfl, k σ0 _ ⟨rfl, q⟩⟩⟩
theorem ts_cons {n : Nat} {t : Expr} {ts : List Expr} {R : RT X.K α} {T : TR X.K β} {w : α → S → S} {w' : β → S → S} {vs vs' : List Nat} (h : TJG X ss t R w vs) (h' : TJS X ss ts T w' vs' n)
    (hs : (assignEach (t :: ts) X.env).map (·.2) = assign t X.env :: (assignEach ts X.env).map (·.2) := by rfl) : TJS X ss (t :: ts) (tC R T) (wPair w w') (vs ++ vs') (n + 1) := by
  obtain ⟨g, p, d⟩ := h.ex
  obtain ⟨g', p', d'⟩ := h'.ex
  refine ⟨_, pgs_cons p p' hs, fun B F H σ s xs a h sm r => ?_⟩
  obtain ⟨v, r', rfl, r, t⟩ := r
  obtain ⟨ps, e, r2, k⟩ := d B F H σ s v a.1 h sm r
  obtain ⟨el, ps', e', r2', k'⟩ := d' B F H _ _ r' a.2 r2 sm t
  refine ⟨congrArg (· + 1) el, ps ++ ps', by rw [List.map_append, e, e'], by rw [sets_app]; exact r2', fun σ0 Q q => ⟨v, r', rfl, k σ0 _ (k' _ _ ?_)⟩⟩
  rw [← sets_app]
  exact q
theorem tg_tup {n k : Nat} {ts : List Expr} {T : TR X.K α} {w : α → S → S} {vs : List Nat} (h : TJS X ss ts T w vs n) (hc : X.calm = true := by rfl) (hn : (assignEach ts X.env).length = n := by rfl) (hst : (assignEach ts X.env).findIdx? (·.1) = none := by rfl) :
    TJG X ss (.Tuple ts k pos) (rTup T) w vs := by
  obtain ⟨g, p, d⟩ := h.ex
  refine ⟨_, pg_tup hc p hn hst, fun B F H σ s v a h sm r => ?_⟩
  obtain ⟨q, xs, rfl, hq, r⟩ := r
  obtain ⟨el, ps, e, r2, k⟩ := d B F H σ s xs a h sm r
  exact ⟨ps, e, r2, fun σ0 Q z => ⟨q, xs, rfl, SqT.of (sm.k hq), el, k σ0 Q z⟩⟩

/-! ### what is walked -/
omit [TabC] in
/-- as long as F stands -/
def Walks {K : PySem.W.Frag} (R : RT K α) (J : It) (as : List α) (F : Hp) (N : Hp → Prop) : Prop := ∀ i F' H', Same F F' → Same F' H' → N H' →
  (∀ a, as[i]? = some a → J.go i H' ∧ ∀ x H2, J.yld i H' x H2 → ∃ F2, Grow F' H' F2 H2 ∧ R.r F2 x a) ∧ (as.length ≤ i → J.stop i H')
def kIt {K : PySem.W.Frag} (R : RT K α) : RK K It (List α) := ⟨fun _ F _ J as => Walks R J as F (fun _ => True), fun s g h i F' H' s1 s2 n => h i F' H' ((g.ff s).trans s1) s2 n, fun _ h => h⟩
/-- .. and all that is tracked now -/
def kItH {K : PySem.W.Frag} (R : RT K α) : RK K It (List α) := ⟨fun _ F H J as => Walks R J as F (fun H' => Same H H'), fun s g h i F' H' s1 s2 n => h i F' H' ((g.ff s).trans s1) s2 (g.hh.trans n), fun _ h => h⟩
structure IJ (X : Cx) (xr : XR) (W : WX) (ss : SS X.K S) (tg e : Expr) (P : RK X.K It (List α)) (m : S → Res (List α)) : Prop where
  ex : ∃ wi, PI X tg e wi ∧ Does xr W ss wi P m
theorem IJ.h {tg e : Expr} {R : RT X.K α} {m : S → Res (List α)} (h : IJ X xr W ss tg e (kIt R) m) : IJ X xr W ss tg e (kItH R) m := by
  obtain ⟨t, p, d⟩ := h.ex
  refine ⟨t, p, fun F0 B F H σ s Q a hw => d _ _ _ _ _ _ _ a ?_⟩
  cases e : m s with
  | ok as =>
    rw [e] at hw
    exact fun J F' H' g w => hw J F' H' g fun i F2 H2 s1 s2 _ => w i F2 H2 s1 s2 trivial
  | er x =>
    rw [e] at hw
    exact hw
  | no =>
    rw [e] at hw
    exact hw
theorem walks_seq {R : RT X.K α} {p : Addr} {vs : List V} {as : List α} {F : Hp} {N : Hp → Prop} (hq : ∀ H', N H' → ∀ F', Same F F' → Same F' H' → SqL X.K H' p vs) (ps : Ps R F vs as) : Walks R (Itl X.K p) as F N := fun i F' H' s1 s2 n => by
  have hs := hq H' n F' s1 s2
  refine ⟨fun a ha => ?_, fun hi => ⟨vs, hs, by rw [show vs.length = as.length from Paired.length ps]; exact hi⟩⟩
  obtain ⟨v, hv, r⟩ := Paired.get2 ps ha
  refine ⟨⟨vs, v, hs, hv⟩, fun x H2 y => ?_⟩
  obtain ⟨rfl, y⟩ := y
  have e : v = x := Option.some.inj (hv.symm.trans (y vs hs))
  subst e
  exact ⟨F', .refl s2, R.mono s1 r⟩
/-- over a list that stands for good -/
theorem ij_list {tg e : Expr} {R : RT X.K α} {m : S → Res (List α)} (h : EE X xr W ss e (pers (rList R)) m) : IJ X xr W ss tg e (kIt R) m := by
  obtain ⟨t, p, d⟩ := h.ex
  refine ⟨_, pi_list p, fun F0 B F H σ s Q a hw => d _ _ _ _ _ _ _ a ?_⟩
  cases e : m s with
  | ok as =>
    rw [e] at hw
    intro v F' H' g hp
    obtain ⟨q, vs, rfl, h1, ps⟩ := hp
    exact ⟨q, rfl, ⟨vs, SqL.of (g.fh.k h1)⟩, hw _ F' H' g (walks_seq (fun H2 _ F2 s1 s2 => SqL.of (s2.k (s1.k h1))) ps)⟩
  | er x =>
    rw [e] at hw
    exact hw
  | no =>
    rw [e] at hw
    exact hw
theorem ij_lst {tg e : Expr} {R : RT X.K α} {m : S → Res (List α)} (h : EE X xr W ss e (seq R) m) : IJ X xr W ss tg e (kItH R) m := by
  obtain ⟨t, p, d⟩ := h.ex
  refine ⟨_, pi_list p, fun F0 B F H σ s Q a hw => d _ _ _ _ _ _ _ a ?_⟩
  cases e : m s with
  | ok as =>
    rw [e] at hw
    intro v F' H' g hp
    obtain ⟨q, vs, rfl, h1, ps⟩ := hp
    exact ⟨q, rfl, ⟨vs, h1⟩, hw _ F' H' g (walks_seq (fun H2 n F2 s1 s2 => Same.seq n h1) ps)⟩
  | er x =>
    rw [e] at hw
    exact hw
  | no =>
    rw [e] at hw
    exact hw
/-- for .. in ..: -/
theorem s1_for {tg e : Expr} {body : List Stmt} {R : RT X.K α} {mi : S → Res (List α)} {w : α → S → S} {vs : List Nat} {mb : S → Out S ρ} (hp : PassesOwn (model X.prog X.w) X.A X.env X.xe) (hi : IJ X xr W ss tg e (kIt R) mi) (ht : TJG X ss tg R w vs) (hb : SJ X xr W ss body ss P mb)
    (hc : X.calm = true := by rfl) (hs : ∀ x, foldedSetIterable e X.env x = pure x := by intro _; rfl) : S1J X xr W ss (.For tg e body [] pos) ss P (oFor mi w mb) := by
  obtain ⟨wi, pi, di⟩ := hi.ex
  obtain ⟨g, pg, dg⟩ := ht.ex
  obtain ⟨tb, pb, db⟩ := hb.ex
  refine ⟨_, ps_for hp hc pi pg pb hs, fun F0 B F H σ s D a h => ?_⟩
  refine di.goS a h fun as J F1 H1 _ at1 g1 hw h1 => ?_
  refine ⟨fun i m σ H => ∃ F s', m = as.length - i ∧ At ss F0 B F H σ s' ∧ Same F1 F ∧ WantS ss P xr W F0 B F (forM (fun a s => mb (w a s)) (as.drop i) s') D, ⟨_, F1, s, rfl, at1, .refl F1, h1⟩, ?_⟩
  rintro i m σ H ⟨F, s', rfl, a', sm, h'⟩
  obtain ⟨hgo, hstop⟩ := hw i F H sm a'.fh trivial
  by_cases hlt : i < as.length
  · obtain ⟨go, yl⟩ := hgo as[i] (List.getElem?_eq_getElem hlt)
    rw [List.drop_eq_getElem_cons hlt] at h'
    refine .inr ⟨go, fun σ' H' => ∃ F s', At ss F0 B F H' σ' s' ∧ Same F1 F ∧ WantS ss P xr W F0 B F (forM (fun a s => mb (w a s)) (as.drop (i + 1)) s') D, fun σ' H' ⟨F2, s2, q1, q2, q3⟩ => ⟨as.length - (i + 1), by omega, F2, s2, rfl, q1, q2, q3⟩, fun x H' y => ?_⟩
    obtain ⟨F2, g2, r2⟩ := yl x H' y
    have a2 := a'.grow g2
    obtain ⟨ps, _, rl, k⟩ := dg B F2 H' σ s' x _ a2.r a2.fh r2
    refine k σ _ (db F0 B F2 H' _ _ _ ⟨a2.g, a2.t, rl⟩ ?_)
    have sm2 : Same F F2 := g2.ff a'.fh
    have h2 : WantS ss P xr W F0 B F2 ((mb (w as[i] s')).seq (forM (fun a s => mb (w a s)) (as.drop (i + 1)))) D := WantS.shift h' sm2
    cases e : mb (w as[i] s') with
    | nx s3 =>
      rw [e] at h2
      exact fun F3 H3 σ3 s3' a3 => ⟨F3, s3, a3, (sm.trans sm2).trans s3', WantS.shift h2 s3'⟩
    | rt r =>
      rw [e] at h2
      exact h2
    | er x =>
      rw [e] at h2
      exact h2
    | no =>
      rw [e] at h2
      exact h2.elim
  · rw [List.drop_eq_nil_of_le (by omega)] at h'
    exact .inl ⟨hstop (by omega), h' F H σ (.refl F) a'⟩
/-- while, so many turns at most -/
theorem s1_while {c : Expr} {body : List Stmt} {mc : S → Res Bool} {mb : S → Out S ρ} (n : Nat) (hp : PassesOwn (model X.prog X.w) X.A X.env X.xe) (hc : TJ X xr W ss c mc) (hb : SJ X xr W ss body ss P mb) : S1J X xr W ss (.While c body [] pos) ss P (whileM mc mb n) := by
  obtain ⟨tc, pc, dc⟩ := hc.ex
  obtain ⟨tb, pb, db⟩ := hb.ex
  refine ⟨_, ps_while hp pc pb, fun F0 B F H σ s D a h => ?_⟩
  refine ⟨fun m σ H => ∃ F s', At ss F0 B F H σ s' ∧ WantS ss P xr W F0 B F (whileM mc mb m s') D, ⟨n, F, s, a, h⟩, ?_⟩
  rintro m σ H ⟨F, s', a', h'⟩
  cases m with
  | zero => exact h'.elim
  | succ m =>
    refine dc.goS a' h' fun k v F1 H1 _ at1 g1 p1 hw1 => ?_
    cases p1
    cases k with
    | false =>
      rw [if_neg Bool.false_ne_true] at hw1 ⊢
      exact hw1 F1 H1 σ (.refl F1) at1
    | true =>
      rw [if_pos rfl] at hw1 ⊢
      refine ⟨fun σ' H' => ∃ F s', At ss F0 B F H' σ' s' ∧ WantS ss P xr W F0 B F (whileM mc mb m s') D, fun σ' H' ⟨F2, s2, q1, q2⟩ => ⟨m, Nat.lt_succ_self m, F2, s2, q1, q2⟩, ?_⟩
      refine db F0 B F1 H1 σ s' _ at1 ?_
      cases e : mb s' with
      | nx s3 =>
        rw [e] at hw1
        exact fun F3 H3 σ3 s3' a3 => ⟨F3, s3, a3, WantS.shift hw1 s3'⟩
      | rt r =>
        rw [e] at hw1
        exact hw1
      | er x =>
        rw [e] at hw1
        exact hw1
      | no =>
        rw [e] at hw1
        exact hw1.elim
end
end Y


set_option Elab.async false
set_option linter.all false
set_option autoImplicit false
set_option maxRecDepth 100000
set_option maxHeartbeats 2000000
/-! Y4: comprehensions, calls of defs, built-ins, ranges, enumerate; the def. -/
namespace Y
open PySem PySem.Spec PyProof.Rows L2

theorem Res.bind_bind {α β γ : Type} (m : Res α) (k : α → Res β) (l : β → Res γ) : (m.bind k).bind l = m.bind fun x => (k x).bind l := by
  cases m <;> rfl
section
variable [TabC] {K : PySem.W.Frag} {ν α β γ : Type} {xr : XR} {P : RK K ν γ} {E : XK} {H0 F H : Hp} {Q : ν → Hp → Prop}
theorem Want.grdb {c : Bool} {a : α} {k : α → Res γ} (h : Want xr P E H0 F H ((guardR c a).bind k) Q) : c = true ∧ Want xr P E H0 F H (k a) Q := by
  cases c with
  | true => exact ⟨rfl, h⟩
  | false => exact h.elim
theorem Want.calmb {m : Res α} {k : α → Res γ} (h : Want xr P E H0 F H (m.calm.bind k) Q) : ∃ x, m = .ok x ∧ Want xr P E H0 F H (k x) Q := by
  cases m with
  | ok a => exact ⟨a, rfl, h⟩
  | er e => exact h.elim
  | no => exact h.elim
theorem Want.optb {o : Option α} {k : α → Res γ} (h : Want xr P E H0 F H ((ofOpt o).bind k) Q) : ∃ x, o = some x ∧ Want xr P E H0 F H (k x) Q := by
  cases o with
  | none => exact h.elim
  | some x => exact ⟨x, rfl, h⟩
end

/-! ### comprehensions -/
abbrev W0 : WX := fun _ _ _ _ => False
section
variable [TabC] {X : Cx} {S S' α β γ A ρ : Type} {xr : XR} {W : WX} {ss : SS X.K S} {ss' : SS X.K S'} {pos : Pos} {P : RK X.K V ρ}
structure TJs (X : Cx) (xr : XR) (W : WX) (ss : SS X.K S) (es : List Expr) (m : S → Res Bool) : Prop where
  ex : ∃ tt, PTs X es tt ∧ Does xr W ss tt kB m
theorem tjs_nil : TJs X xr W ss [] (cK true) := ⟨_, pts_nil, fun F0 B F H σ s Q a hw => hw true F H (.refl a.fh) rfl⟩
theorem tjs_one {e : Expr} {m : S → Res Bool} (h : TJ X xr W ss e m) : TJs X xr W ss [e] m := let ⟨t, p, d⟩ := h.ex; ⟨t, pts_one p, d⟩
/-- all that stands for a comprehension -/
structure CJ (X : Cx) (xr : XR) (W : WX) (ss : SS X.K S) (elt tg iter : Expr) (ifs : List Expr) (scope : Scope) (own : List (Str × Nat)) (R : RT X.K β) (m : S → Res (List β)) : Prop where
  ok : BlkOk X.N X.env.scope scope own
  ex : ∃ wi g tt te, PI X tg iter wi ∧ (∀ (s : Shared) (H : Hp) (C : Addr) (cl : List (Str × Addr)) (fp : List Addr), PG (X.blk s H scope (compEnvC scope cl C X.env) fp) tg g) ∧
    (∀ (s : Shared) (H : Hp) (C : Addr) (cl : List (Str × Addr)) (fp : List Addr), PTs (X.blk s H scope (compEnvC scope cl C X.env) fp) ifs tt) ∧
    (∀ (s : Shared) (H : Hp) (C : Addr) (cl : List (Str × Addr)) (fp : List Addr), PE (X.blk s H scope (compEnvC scope cl C X.env) fp) elt te) ∧ Does xr W ss (tLc wi g tt te (own.map (·.2))) (fre R) m
theorem comp_run {wi : TI} {g : TG} {tt : TT} {te : TE} {Ra : RT X.K α} {R : RT X.K β} {mi : S → Res (List α)} {w : α → S → S} {mc : S → Res Bool} {me : S → Res β} {vs : List Nat} (di : Does xr W ss wi (kItH Ra) mi)
    (dg : ∀ B F H σ s v a, ss.rel B [] F H σ s → Same F H → Ra.r F v a → ∀ Q : St → Hp → Prop, (∀ ps : List (Nat × V), ps.map (·.1) = vs → ss.rel B [] F H (sets ps σ) (w a s) → Q (sets ps (wipe σ vs)) H) → g v (wipe σ vs) H Q)
    (dt : Does xr W0 ss tt kB mc) (de : Does xr W0 ss te (pers R) me) : Does xr W ss (tLc wi g tt te vs) (fre R) (cComp mi w mc me) := fun F0 B F H σ s Q at0 hw => by
  refine di.go at0 hw fun as J F1 H1 _ at1 g1 hwalk hw1 => ?_
  obtain ⟨hn, hw1⟩ := hw1.grdb
  have hn : as.length ≤ 16777216 := of_decide_eq_true hn
  intro D hD
  let c := fun a => mc (w a s)
  let f := fun a => me (w a s)
  refine ⟨fun i m H' => m = as.length - i ∧ ∃ F' ys done, Grow F1 H1 F' H' ∧ F' D = none ∧ H' D = some (.lst ys) ∧ Ps R F' ys done ∧ done.length ≤ i ∧ Want xr (fre R) (WE W σ) H F1 H1 ((compM c f (as.drop i)).bind fun r => .ok (done ++ r)) Q,
    ⟨_, rfl, F1, [], [], .newH at1.fh hD, at1.fh.free hD, upd_same, .nil, Nat.le_refl _, ?_⟩, ?_⟩
  · have e : ((compM c f (as.drop 0)).bind fun r => Res.ok ([] ++ r)) = compM c f as := by
      rw [List.drop_zero]
      show ((compM c f as).bind fun r => Res.ok r) = _
      cases compM c f as <;> rfl
    rw [e]
    exact hw1
  rintro i m H' ⟨rfl, F', ys, done, gr, hF, hH, ps, hl, hq⟩
  obtain ⟨hgo, hstop⟩ := hwalk i F' H' (gr.ff at1.fh) gr.fh gr.hh
  by_cases hlt : i < as.length
  · obtain ⟨go, yl⟩ := hgo as[i] (List.getElem?_eq_getElem hlt)
    rw [List.drop_eq_getElem_cons hlt] at hq
    refine .inr ⟨go, fun H' => ∃ F' ys done, Grow F1 H1 F' H' ∧ F' D = none ∧ H' D = some (.lst ys) ∧ Ps R F' ys done ∧ done.length ≤ i + 1 ∧ Want xr (fre R) (WE W σ) H F1 H1 ((compM c f (as.drop (i + 1))).bind fun r => .ok (done ++ r)) Q,
      fun H' h => ⟨as.length - (i + 1), by omega, rfl, h⟩, fun x H2 y => ?_⟩
    obtain ⟨F2, g2, r2⟩ := yl x H2 y
    have a2 := (at1.grow gr).grow g2
    refine dg B F2 H2 σ s x _ a2.r a2.fh r2 _ fun pv e1 rl => ?_
    subst e1
    rw [sets_wipe]
    refine ⟨wipe_sets pv σ, ?_⟩
    have hq : Want xr (fre R) (WE W σ) H F1 H1 (((c as[i]).calm.bind fun k => if k = true then (f as[i]).calm.bind fun y => (compM c f (as.drop (i + 1))).bind fun ys => .ok (y :: ys) else compM c f (as.drop (i + 1))).bind fun r => .ok (done ++ r)) Q := hq
    rw [Res.bind_bind] at hq
    obtain ⟨k, ek, hq⟩ := hq.calmb
    have D2 : F2 D = none ∧ H2 D = some (.lst ys) := ⟨by rw [g2.eq D (by rw [hH]; exact fun z => nomatch z)]; exact hF, g2.hh.k hH⟩
    refine dt F0 B F2 H2 _ _ _ ⟨a2.g, a2.t, rl⟩ ?_
    have ek : mc (w as[i] s) = .ok k := ek
    rw [ek]
    intro b F3 H3 g3 eb
    have eb : b = k := eb
    subst eb
    have a3 : At ss F0 B F3 H3 (sets pv σ) (w as[i] s) := At.grow ⟨a2.g, a2.t, rl⟩ g3
    have D3 : F3 D = none ∧ H3 D = some (.lst ys) := ⟨by rw [g3.eq D (by rw [D2.2]; exact fun z => nomatch z)]; exact D2.1, g3.hh.k D2.2⟩
    cases b with
    | false =>
      rw [if_neg Bool.false_ne_true] at hq ⊢
      exact ⟨F3, ys, done, (gr.trans g2).trans g3, D3.1, D3.2, ps.mono ((g2.ff gr.fh).trans (g3.ff a2.fh)), Nat.le_succ_of_le hl, hq⟩
    | true =>
      rw [if_pos rfl] at hq ⊢
      rw [Res.bind_bind] at hq
      obtain ⟨z, ez, hq⟩ := hq.calmb
      have ez : me (w as[i] s) = .ok z := ez
      refine de F0 B F3 H3 _ _ _ a3 ?_
      rw [ez]
      intro v F4 H4 g4 rv
      have D4 : F4 D = none ∧ H4 D = some (.lst ys) := ⟨by rw [g4.eq D (by rw [D3.2]; exact fun z => nomatch z)]; exact D3.1, g4.hh.k D3.2⟩
      have ps4 : Ps R F4 ys done := ps.mono (((g2.ff gr.fh).trans (g3.ff a2.fh)).trans (g4.ff a3.fh))
      refine ⟨ys, D4.2, ?_, F4, ys ++ [v], done ++ [z], (((gr.trans g2).trans g3).trans g4).change hD D4.1 D4.2, D4.1, upd_same, Paired.app ps4 (.cons rv .nil), ?_, ?_⟩
      · rw [sizeLine_eq, show ys.length = done.length from Paired.length ps4]
        omega
      · rw [List.length_append]
        exact Nat.succ_le_succ hl
      · rw [Res.bind_bind] at hq
        have e : ((compM c f (as.drop (i + 1))).bind fun r => Res.ok ((done ++ [z]) ++ r)) = (compM c f (as.drop (i + 1))).bind fun x => (Res.ok (z :: x)).bind fun r => .ok (done ++ r) := by
          cases compM c f (as.drop (i + 1)) with
          | ok r => exact congrArg Res.ok (by rw [List.append_assoc, List.singleton_append])
          | er e => rfl
          | no => rfl
        rw [e]
        exact hq
  · rw [List.drop_eq_nil_of_le (by omega)] at hq
    have hq : Want xr (fre R) (WE W σ) H F1 H1 (.ok (done ++ [])) Q := hq
    rw [List.append_nil] at hq
    exact .inl ⟨hstop (by omega), hq _ F' H' gr ⟨D, ys, rfl, g1.hh.free hD, hH, hF, ps⟩⟩
theorem cj {elt tg iter : Expr} {ifs : List Expr} {scope : Scope} {own : List (Str × Nat)} {Ra : RT X.K α} {R : RT X.K β} {mi : S → Res (List α)} {w : α → S → S} {mc : S → Res Bool} {me : S → Res β} (hi : IJ X xr W ss tg iter (kItH Ra) mi) (ok : blkC X.N X.env.scope scope own = true)
    (hg : ∀ (s : Shared) (H : Hp) (C : Addr) (cl : List (Str × Addr)) (fp : List Addr), TJG (X.blk s H scope (compEnvC scope cl C X.env) fp) ss tg Ra w (own.map (·.2)))
    (ht : ∀ (s : Shared) (H : Hp) (C : Addr) (cl : List (Str × Addr)) (fp : List Addr), TJs (X.blk s H scope (compEnvC scope cl C X.env) fp) xr W0 ss ifs mc)
    (he : ∀ (s : Shared) (H : Hp) (C : Addr) (cl : List (Str × Addr)) (fp : List Addr), EE (X.blk s H scope (compEnvC scope cl C X.env) fp) xr W0 ss elt (pers R) me) : CJ X xr W ss elt tg iter ifs scope own R (cComp mi w mc me) := by
  refine ⟨blkOk_by ok, ?_⟩
  obtain ⟨wi, pi, di⟩ := hi.ex
  let G := fun s H C cl fp => Classical.choose (hg s H C cl fp).ex
  have hG := fun s H C cl fp => Classical.choose_spec (hg s H C cl fp).ex
  let T := fun s H C cl fp => Classical.choose (ht s H C cl fp).ex
  have hT := fun s H C cl fp => Classical.choose_spec (ht s H C cl fp).ex
  let U := fun s H C cl fp => Classical.choose (he s H C cl fp).ex
  have hU := fun s H C cl fp => Classical.choose_spec (he s H C cl fp).ex
  refine ⟨wi, fun v σ H Q => ∀ s H' C cl fp, G s H' C cl fp v σ H Q, fun σ H Q => ∀ s H' C cl fp, T s H' C cl fp σ H Q, fun σ H Q => ∀ s H' C cl fp, U s H' C cl fp σ H Q, pi, ?_, ?_, ?_, comp_run di ?_ ?_ ?_⟩
  · exact fun s H C cl fp => ⟨fun pins s' σ H' v u Q I r h => (hG s H C cl fp).1.run pins s' σ H' v u Q I r (h s H C cl fp)⟩
  · exact fun s H C cl fp => ⟨fun pins s' σ H' Q I h => (hT s H C cl fp).1.run pins s' σ H' Q I (h s H C cl fp)⟩
  · exact fun s H C cl fp => ⟨fun pins s' σ H' Q I h => (hU s H C cl fp).1.run pins s' σ H' Q I (h s H C cl fp)⟩
  · intro B F H σ s v a r sm hr Q hQ s' H' C cl fp
    obtain ⟨ps, e, rl, k⟩ := (hG s' H' C cl fp).2 B F H σ s v a r sm hr
    exact k _ _ (hQ ps e rl)
  · exact fun F0 B F H σ s Q a hw s' H' C cl fp => (hT s' H' C cl fp).2 F0 B F H σ s Q a hw
  · exact fun F0 B F H σ s Q a hw s' H' C cl fp => (hU s' H' C cl fp).2 F0 B F H σ s Q a hw
theorem ee_comp {elt tg iter : Expr} {ifs : List Expr} {scope : Scope} {own : List (Str × Nat)} {R : RT X.K β} {m : S → Res (List β)} (h : CJ X xr W ss elt tg iter ifs scope own R m) (hN : X.N.Nodup) (hc : X.calm = true := by rfl) (hs : ∀ x, foldedSetIterable iter X.env x = pure x := by intro _; rfl) :
    EE X xr W ss (.ListComp elt [⟨tg, iter, ifs, 0⟩] scope pos) (fre R) m := by
  obtain ⟨wi, g, tt, te, p1, p2, p3, p4, d⟩ := h.ex
  exact ⟨_, pe_lc hc hN p1 h.ok p2 p3 p4 hs, d⟩
theorem Does.frz {te : TE} {R : RT X.K α} {m : S → Res (List α)} (d : Does xr W ss te (fre R) m) : Does xr W ss te (pers (rList R)) m := fun F0 B F H σ s Q a hw => d _ _ _ _ _ _ _ a (by
  cases e : m s with
  | ok x =>
    rw [e] at hw
    intro v F1 H1 g hp
    obtain ⟨p, vs, ev, h0, h1, hf, ps⟩ := hp
    exact hw v _ H1 (g.freeze h0 h1) ⟨p, vs, ev, upd_same, ps.mono (same_new hf)⟩
  | er x =>
    rw [e] at hw
    exact hw
  | no =>
    rw [e] at hw
    exact hw)
theorem s1_setC {elt tg iter : Expr} {ifs : List Expr} {scope : Scope} {own : List (Str × Nat)} {R : RT X.K β} {m : S → Res (List β)} {i : Nat} {y : Str} {py spos : Pos} {g : S → Option (List β)} {w : List β → S → S} (l : LI ss i (rList R) g w) (h : CJ X xr W ss elt tg iter ifs scope own R m) (hN : X.N.Nodup)
    (hsw : swapsWith (.ListComp elt [⟨tg, iter, ifs, 0⟩] scope pos) (some (.Name y py)) spos.line X.env = pure true) (hy : X.N[i]? = some y := by rfl) (hyl : X.env.scope.names.lookup y = some .local := by rfl) (hc : X.calm = true := by rfl) (hs : ∀ x, foldedSetIterable iter X.env x = pure x := by intro _; rfl) :
    S1J X xr W ss (.Assign [.Name y py] (.ListComp elt [⟨tg, iter, ifs, 0⟩] scope pos) spos) ss P (oSet w m) := by
  obtain ⟨wi, gg, tt, te, p1, p2, p3, p4, d⟩ := h.ex
  refine ⟨_, ps_setLc hc hN hy hyl hsw p1 h.ok p2 p3 p4 hs, fun F0 B F H σ s D a h => ?_⟩
  refine (Does.frz d).goS a h fun x v F1 H1 _ at1 g1 p1 hw1 => ?_
  exact hw1 F1 H1 _ (.refl F1) ⟨at1.g, at1.t, l.set at1.r p1⟩
theorem s1_setCO {elt tg iter : Expr} {ifs : List Expr} {scope : Scope} {own : List (Str × Nat)} {R : RT X.K β} {m : S → Res (List β)} {i : Nat} {y : Str} {py spos : Pos} {g : S → Option (List β)} {w : List β → S → S} (l : LO ss i R g w) (h : CJ X xr W ss elt tg iter ifs scope own R m) (hN : X.N.Nodup)
    (hsw : swapsWith (.ListComp elt [⟨tg, iter, ifs, 0⟩] scope pos) (some (.Name y py)) spos.line X.env = pure true) (hy : X.N[i]? = some y := by rfl) (hyl : X.env.scope.names.lookup y = some .local := by rfl) (hc : X.calm = true := by rfl) (hs : ∀ x, foldedSetIterable iter X.env x = pure x := by intro _; rfl) :
    S1J X xr W ss (.Assign [.Name y py] (.ListComp elt [⟨tg, iter, ifs, 0⟩] scope pos) spos) ss P (oSet w m) := by
  obtain ⟨wi, gg, tt, te, p1, p2, p3, p4, d⟩ := h.ex
  refine ⟨_, ps_setLc hc hN hy hyl hsw p1 h.ok p2 p3 p4 hs, fun F0 B F H σ s D a h => ?_⟩
  refine d.goS a h fun x v F1 H1 _ at1 g1 p1 hw1 => ?_
  obtain ⟨q, vs, rfl, q1, q2, q3, q4⟩ := p1
  exact hw1 F1 H1 _ (.refl F1) ⟨at1.g, at1.t, l.set a.r a.fh g1 (a.seen.free q1) q1 q2 q3 q4 (fun z => nomatch z)⟩

/-! ### calls -/
/-- a def's promise by its mirror -/
def sp {K : PySem.W.Frag} (AR : RK K (List V) A) (P : RK K V ρ) (xr : XR) (m : A → Res ρ) : Sp := fun vs H Q E => ∃ F a, Same F H ∧ Tb H ∧ AR.p H F H vs a ∧ Want xr P E H F H (m a) Q
theorem ee_call {k : Nat} {f : Addr} {fd : FuncData} {ps : List Str} {x : Str} {p : Pos} {e : Expr} {es : List Expr} {AR PA : RK X.K (List V) A} {m : A → Res ρ} {ma : S → Res A} (F : FnOk X.prog X.w X.K X.mg X.base (L2.CX X.prog X.w) k f fd ps (sp AR P xr m)) (hr : Room k X.A) (hm : X.mg x = some (.ref f))
    (hk : PySem.W.keepIn X.K (.ref f) = true) (hb : Binds X.K fd ps []) (tk : Takes X W) (ha : AA X xr W ss (e :: es) PA ma) (hA : ∀ H0 H F vs a, PA.p H0 F H vs a → AR.p H F H vs a := by exact fun _ _ _ _ _ h => h) (hg : Gl X x := by rfl) (hdb : (x == ("__debug__" : Str)) = false := by decide)
    (he : starEach (e :: es) X.env = (false, eval e X.env) :: starEach es X.env := by rfl) (hpl : (backTo pos (starEach es X.env)).any (·.1) = false := by rfl) : EE X xr W ss (.Call (.Name x p) (e :: es) [] pos) P (cCall m ma) := by
  obtain ⟨ta, pa, d⟩ := ha.ex
  refine ⟨_, pe_callS F hr hg hm hk hb (fun σ => passAt tk σ) pa hdb he hpl, fun F0 B F H σ s Q a0 hw => ?_⟩
  refine d.go a0 hw fun a vs F1 H1 _ at1 g1 p1 hw1 => ?_
  exact ⟨F1, a, at1.fh, at1.tb, hA _ _ _ _ _ p1, hw1.late g1.hh⟩
/-- .. of lists that may still change; the answer tells nothing of them -/
theorem ee_callT {k : Nat} {f : Addr} {fd : FuncData} {ps : List Str} {x : Str} {p : Pos} {e : Expr} {es : List Expr} {AR PA : RK X.K (List V) A} {P' : RK X.K V ρ} {m : A → Res ρ} {ma : S → Res A} (F : FnOk X.prog X.w X.K X.mg X.base (L2.CX X.prog X.w) k f fd ps (sp AR P xr m)) (hr : Room k X.A) (hm : X.mg x = some (.ref f))
    (hk : PySem.W.keepIn X.K (.ref f) = true) (hb : Binds X.K fd ps []) (tk : Takes X W) (ha : AA X xr W ss (e :: es) PA ma) (hP : ∀ H0 H1 F' H' v c, Same H0 H1 → Same H1 H' → P.p H1 F' H' v c → ∀ F1, Same F1 H1 → P'.p H0 F1 H' v c) (hA : ∀ H0 H F vs a, PA.p H0 F H vs a → AR.p H H H vs a := by exact fun _ _ _ _ _ h => h) (hg : Gl X x := by rfl) (hdb : (x == ("__debug__" : Str)) = false := by decide)
    (he : starEach (e :: es) X.env = (false, eval e X.env) :: starEach es X.env := by rfl) (hpl : (backTo pos (starEach es X.env)).any (·.1) = false := by rfl) : EE X xr W ss (.Call (.Name x p) (e :: es) [] pos) P' (cCall m ma) := by
  obtain ⟨ta, pa, d⟩ := ha.ex
  refine ⟨_, pe_callS F hr hg hm hk hb (fun σ => passAt tk σ) pa hdb he hpl, fun F0 B F H σ s Q a0 hw => ?_⟩
  refine d.go a0 hw fun a vs F1 H1 _ at1 g1 p1 hw1 => ⟨H1, a, .refl H1, at1.tb, hA _ _ _ _ _ p1, ?_⟩
  cases em : m a with
  | ok c =>
    rw [em] at hw1
    exact fun v F' H' g q => hw1 v F1 H' ⟨g.hh, at1.fh.trans g.hh, fun _ _ => rfl, g.tb⟩ (hP H H1 F' H' v c g1.hh g.hh q F1 at1.fh)
  | er x =>
    rw [em] at hw1
    exact hw1
  | no =>
    rw [em] at hw1
    exact hw1
theorem callT_free {R : RT X.K ρ} (hf : Free R) : ∀ H0 H1 F' H' v c, Same H0 H1 → Same H1 H' → (pers R).p H1 F' H' v c → ∀ F1, Same F1 H1 → (pers R).p H0 F1 H' v c := fun _ _ _ _ _ _ _ _ h _ _ => hf.f h
omit [TabC] in
theorem Ps.free {K : PySem.W.Frag} {R : RT K α} (hf : Free R) {F F' : Hp} : ∀ {vs : List V} {as : List α}, Ps R F vs as → Ps R F' vs as
  | _, _, .nil => .nil
  | _, _, .cons h t => .cons (hf.f h) (Ps.free hf t)
theorem callT_fre {R : RT X.K ρ} (hf : Free R) : ∀ H0 H1 F' H' v c, Same H0 H1 → Same H1 H' → (fre R).p H1 F' H' v c → ∀ F1, Same F1 H1 → (fre R).p H0 F1 H' v c := fun _ _ _ _ _ _ s1 s2 h F1 s3 => by
  obtain ⟨p, vs, e, h0, h1, h2, ps⟩ := h
  exact ⟨p, vs, e, s1.free h0, h1, s3.free h0, Ps.free hf ps⟩
theorem ee_callB {id : String} {r : List V → Hp → VK → Prop} {x : Str} {p : Pos} {e : Expr} {es : List Expr} {PA : RK X.K (List V) A} {f : A → Res ρ} {ma : S → Res A} (hc : CallR X (.builtin id) r) (hm : X.mg x = none) (ha : AA X xr W ss (e :: es) PA ma)
    (hr : ∀ H0 F H vs a E Q, Same H0 H → Same F H → PA.p H0 F H vs a → Want xr P E H0 F H (f a) Q → r vs H Q) (hv : bootBuiltins x = some (.builtin id) := by decide +kernel) (hg : Gl X x := by rfl) (hn : x ≠ "__name__" := by decide) (hdb : (x == ("__debug__" : Str)) = false := by decide)
    (he : starEach (e :: es) X.env = (false, eval e X.env) :: starEach es X.env := by rfl) (hpl : (backTo pos (starEach es X.env)).any (·.1) = false := by rfl) : EE X xr W ss (.Call (.Name x p) (e :: es) [] pos) P (cCall f ma) := by
  obtain ⟨ta, pa, d⟩ := ha.ex
  refine ⟨_, pe_callB hc hg hm hv pa hn hdb he hpl, fun F0 B F H σ s Q a0 hw => ?_⟩
  exact d.go a0 hw fun a vs F1 H1 _ at1 g1 p1 hw1 => hr H F1 H1 vs a _ _ g1.hh at1.fh p1 hw1
theorem ee_callTy {T : String} {r : List V → Hp → VK → Prop} {x : Str} {p : Pos} {e : Expr} {es : List Expr} {PA : RK X.K (List V) A} {f : A → Res ρ} {ma : S → Res A} (hc : CallR X (.type T) r) (hm : X.mg x = none) (ha : AA X xr W ss (e :: es) PA ma)
    (hr : ∀ H0 F H vs a E Q, Same H0 H → Same F H → PA.p H0 F H vs a → Want xr P E H0 F H (f a) Q → r vs H Q) (hv : bootBuiltins x = some (.type T) := by decide +kernel) (hg : Gl X x := by rfl) (hn : x ≠ "__name__" := by decide) (hdb : (x == ("__debug__" : Str)) = false := by decide)
    (he : starEach (e :: es) X.env = (false, eval e X.env) :: starEach es X.env := by rfl) (hpl : (backTo pos (starEach es X.env)).any (·.1) = false := by rfl) : EE X xr W ss (.Call (.Name x p) (e :: es) [] pos) P (cCall f ma) := by
  obtain ⟨ta, pa, d⟩ := ha.ex
  refine ⟨_, pe_callTy hc hg hm hv pa hn hdb he hpl, fun F0 B F H σ s Q a0 hw => ?_⟩
  exact d.go a0 hw fun a vs F1 H1 _ at1 g1 p1 hw1 => hr H F1 H1 vs a _ _ g1.hh at1.fh p1 hw1
end

/-! ### the def -/
section
variable [TabC] {K : PySem.W.Frag} {S S' A ρ α : Type}
/-- how a body starts -/
structure Ini (n : Nat) (AR : RK K (List V) A) (ss : SS K S) (ini : A → S) : Prop where
  st : ∀ B acc F H0 vs a, AR.p H0 F B vs a → vs.length ≤ n ∧ ss.rel B acc F B (vs.map some ++ List.replicate (n - vs.length) none) (ini a)
theorem Ini.n0 : Ini 0 (aN (K := K)) sN (fun _ => ()) := ⟨fun B acc F H0 vs a h => by
  have h : vs = [] := h
  subst h
  exact ⟨Nat.le_refl 0, rfl⟩⟩
theorem Ini.i {n : Nat} {ss : SS K S} {ini : Unit → S} {R : RT K α} (h : Ini n aN ss ini) : Ini (n + 1) aN (sI R ss) (fun a => (none, ini a)) := ⟨fun B acc F H0 vs a e => by
  have e : vs = [] := e
  subst e
  obtain ⟨_, r⟩ := h.st B acc F H0 [] a rfl
  refine ⟨Nat.zero_le _, none, _, rfl, ?_, r⟩
  intro b z
  cases z⟩
theorem Ini.o {n : Nat} {ss : SS K S} {ini : Unit → S} {R : RT K α} (h : Ini n aN ss ini) : Ini (n + 1) aN (sO R ss) (fun a => (none, ini a)) := ⟨fun B acc F H0 vs a e => by
  have e : vs = [] := e
  subst e
  obtain ⟨_, r⟩ := h.st B acc F H0 [] a rfl
  exact ⟨Nat.zero_le _, none, _, rfl, r⟩⟩
theorem Ini.c {n : Nat} {AR : RK K (List V) A} {ss : SS K S} {ini : A → S} {R : RT K α} (h : Ini n AR ss ini) : Ini (n + 1) (aC (pers R) AR) (sI R ss) (fun a => (some a.1, ini a.2)) := ⟨fun B acc F H0 vs a e => by
  obtain ⟨v, r, rfl, h1, h2⟩ := e
  obtain ⟨l, q⟩ := h.st B acc F H0 r a.2 h2
  refine ⟨Nat.succ_le_succ l, some v, _, ?_, fun b z => ⟨v, rfl, by cases z; exact h1⟩, q⟩
  rw [List.map_cons, List.cons_append, List.length_cons, Nat.succ_sub_succ]⟩
structure HL (AR : RK K (List V) A) (n : Nat) : Prop where
  len : ∀ H0 F H vs a, AR.p H0 F H vs a → vs.length = n
theorem HL.n0 : HL (aN (K := K)) 0 := ⟨fun _ _ _ vs _ h => by
  have h : vs = [] := h
  subst h
  rfl⟩
theorem HL.c {n : Nat} {AR : RK K (List V) A} {P : RK K V α} (h : HL AR n) : HL (aC P AR) (n + 1) := ⟨fun _ _ _ vs a e => by
  obtain ⟨v, r, rfl, _, h2⟩ := e
  exact congrArg (· + 1) (h.len _ _ _ r a.2 h2)⟩
variable {Pg : Program} {w : World} {mg : Str → Option Value} {base : Heap} {xr : XR}
theorem def_ok {x qual : Str} {st : Stmt} {f : Addr} {fd : FuncData} {N ps : List Str} {k : Nat} {AR : RK K (List V) A} {P : RK K V ρ} {ss : SS K S} {ss' : SS K S'} {ini : A → S} {mb : S → Out S' ρ} (F : Fun K x qual st f fd) (sc : FnScope N ps (defScope st)) (hl : HL AR ps.length) (hi : Ini N.length AR ss ini)
    (hb : ∀ (cdv : Value) (A' : Around) (outer : List Env) (s : Shared) (H : Hp) (E : XK), Room k (A'.deeper (envOfC qual (defScope st) s.heap.objs.size f cdv)) →
      SJ (cxOf (L2.CX Pg w) Pg w K mg base N qual (defScope st) f cdv A' outer s H E) xr (fun cls d _ H' => E cls d H') ss (defBody st) ss' P mb) :
    FnOk Pg w K mg base (L2.CX Pg w) (k + 1) f fd ps (sp AR P xr (fun a => (mb (ini a)).fin)) := by
  refine F.okX sc (fun vs H Q E h => ?_) (fun cdv A' outer s H vs Q E hr h => ?_)
  · obtain ⟨F, a, _, _, h, _⟩ := h
    exact hl.len _ _ _ _ _ h
  · obtain ⟨t, p, d⟩ := (hb cdv A' outer s H E hr).ex
    obtain ⟨F, a, sm, tb, hA, hw⟩ := h
    have hw : Want xr _ E H F H (mb (ini a)).fin Q := hw
    refine ⟨t, p, d F H F H _ (ini a) _ ⟨.refl sm, tb, ?_⟩ ?_⟩
    · exact (hi.st H [] F H vs a hA).2
    · cases e : mb (ini a) with
      | nx s' =>
        rw [e] at hw
        exact hw.elim
      | rt r =>
        rw [e] at hw
        exact fun v F' H' g q => hw v F' H' g q
      | er x =>
        rw [e] at hw
        exact fun cls dd σ' H' sm q => hw cls dd H' sm q
      | no =>
        rw [e] at hw
        exact hw.elim
/-- .. that returns nothing -/
theorem def_okN {x qual : Str} {st : Stmt} {f : Addr} {fd : FuncData} {N ps : List Str} {k : Nat} {AR : RK K (List V) A} {ss : SS K S} {ss' : SS K S'} {ini : A → S} {mb : S → Out S' Unit} (F : Fun K x qual st f fd) (sc : FnScope N ps (defScope st)) (hl : HL AR ps.length) (hi : Ini N.length AR ss ini)
    (hb : ∀ (cdv : Value) (A' : Around) (outer : List Env) (s : Shared) (H : Hp) (E : XK), Room k (A'.deeper (envOfC qual (defScope st) s.heap.objs.size f cdv)) →
      SJ (cxOf (L2.CX Pg w) Pg w K mg base N qual (defScope st) f cdv A' outer s H E) xr (fun cls d _ H' => E cls d H') ss (defBody st) ss' (pers rUnit) mb) :
    FnOk Pg w K mg base (L2.CX Pg w) (k + 1) f fd ps (sp AR (pers rUnit) xr (fun a => (mb (ini a)).finN)) := by
  refine F.okX sc (fun vs H Q E h => ?_) (fun cdv A' outer s H vs Q E hr h => ?_)
  · obtain ⟨F, a, _, _, h, _⟩ := h
    exact hl.len _ _ _ _ _ h
  · obtain ⟨t, p, d⟩ := (hb cdv A' outer s H E hr).ex
    obtain ⟨F, a, sm, tb, hA, hw⟩ := h
    have hw : Want xr _ E H F H (mb (ini a)).finN Q := hw
    refine ⟨t, p, d F H F H _ (ini a) _ ⟨.refl sm, tb, ?_⟩ ?_⟩
    · exact (hi.st H [] F H vs a hA).2
    · cases e : mb (ini a) with
      | nx s' =>
        rw [e] at hw
        exact fun F' H' σ' sm' a' => hw .non F' H' a'.g rfl
      | rt r =>
        rw [e] at hw
        exact fun v F' H' g q => hw v F' H' g q
      | er x =>
        rw [e] at hw
        exact fun cls dd σ' H' sm q => hw cls dd H' sm q
      | no =>
        rw [e] at hw
        exact hw.elim
end
end Y


set_option Elab.async false
set_option linter.all false
set_option autoImplicit false
set_option maxRecDepth 100000
set_option maxHeartbeats 2000000
/-! Y5: the operators and built-ins by their mirrors. -/
namespace Y
open PySem PySem.Spec PyProof.Rows L2

/-! ### the mirrors' operators -/
def addR (a b : Int) : Res Int := .ok (a + b)
def subR (a b : Int) : Res Int := .ok (a - b)
def mulOk (a b : Int) : Bool := decide (-(2 ^ 64) < a ∧ a < 2 ^ 64) || decide (-(2 ^ 64) < b ∧ b < 2 ^ 64) || decide (a.natAbs.log2 + b.natAbs.log2 < 1000000)
def mulR (a b : Int) : Res Int := guardR (mulOk a b) (a * b)
def fdivOk (b : Int) : Bool := decide (0 < b) && decide (b.natAbs.log2 < 9000)
def fdivR (a b : Int) : Res Int := guardR (fdivOk b) (a / b)
def modR (a b : Int) : Res Int := guardR (decide (0 < b)) (a % b)
def powR (a b : Int) : Res Int := guardR (decide (0 ≤ b ∧ b ≤ 1000000 ∧ a.natAbs < 2 ^ 64)) (a ^ b.toNat)
def negR (a : Int) : Res Int := .ok (-a)
def ltR (a b : Int) : Res Bool := .ok (decide (a < b))
def leR (a b : Int) : Res Bool := .ok (decide (a ≤ b))
def gtR (a b : Int) : Res Bool := .ok (decide (b < a))
def geR (a b : Int) : Res Bool := .ok (decide (b ≤ a))
def eqR {α : Type} [DecidableEq α] (a b : α) : Res Bool := .ok (decide (a = b))
def neR {α : Type} [DecidableEq α] (a b : α) : Res Bool := .ok (!decide (a = b))
def inR {α : Type} [DecidableEq α] (a : α) (as : List α) : Res Bool := .ok (decide (a ∈ as))
def niR {α : Type} [DecidableEq α] (a : α) (as : List α) : Res Bool := .ok (!decide (a ∈ as))
def isNR {α : Type} (a : Option α) (_ : Unit) : Res Bool := .ok a.isNone
def notNR {α : Type} (a : Option α) (_ : Unit) : Res Bool := .ok a.isSome
def isBR (a b : Bool) : Res Bool := .ok (decide (a = b))
def notBR (a b : Bool) : Res Bool := .ok (!decide (a = b))
def ixR {α : Type} (as : List α) (i : Int) : Res α := ofOpt (atI as i)
def catR {α : Type} (as bs : List α) : Res (List α) := guardR (decide (as.length + bs.length ≤ 16777216)) (as ++ bs)
def repR {α : Type} (as : List α) (k : Int) : Res (List α) := guardR (decide (-(2 ^ 63) ≤ k ∧ k < 2 ^ 63 ∧ as.length * k.toNat ≤ 16777216)) (List.replicate k.toNat as).flatten
def cut {α : Type} (as : List α) (lo hi : Option Int) : List α := (as.drop (HT.sIx as.length 0 lo)).take (HT.sIx as.length as.length hi - HT.sIx as.length 0 lo)
def lenR {α : Type} (a : List α × Unit) : Res Int := .ok (a.1.length : Int)
def idR {α : Type} (a : α × Unit) : Res α := .ok a.1
def absR (a : Int × Unit) : Res Int := .ok (if a.1 < 0 then -a.1 else a.1)
def max2R (a : Int × Int × Unit) : Res Int := .ok (if a.2.1 > a.1 then a.2.1 else a.1)
def min2R (a : Int × Int × Unit) : Res Int := .ok (if a.2.1 < a.1 then a.2.1 else a.1)
def sumR (a : List Int × Unit) : Res Int := .ok a.1.sum
def allR (a : List Bool × Unit) : Res Bool := .ok (a.1.all id)
def anyR (a : List Bool × Unit) : Res Bool := .ok (a.1.any id)
def isort (as : List Int) : List Int := as.mergeSort fun a b => decide (a ≤ b)
def sortR (a : List Int × Unit) : Res (List Int) := .ok (isort a.1)
def imax (as : List Int) : Option Int := as.foldl (fun m x => match m with | none => some x | some y => some (max y x)) none
def imin (as : List Int) : Option Int := as.foldl (fun m x => match m with | none => some x | some y => some (min y x)) none
def maxR (a : List Int × Unit) : Res Int := ofOpt (imax a.1)
def minR (a : List Int × Unit) : Res Int := ofOpt (imin a.1)
def rng (lo : Int) (n : Nat) : List Int := (List.range n).map fun (i : Nat) => lo + (i : Int)
def rng1 (a : Int × Unit) : Res (List Int) := guardR (decide (-(2 ^ 62) ≤ a.1 ∧ a.1 < 2 ^ 62)) (rng 0 a.1.toNat)
def rng2 (a : Int × Int × Unit) : Res (List Int) := guardR (decide (-(2 ^ 62) ≤ a.1 ∧ a.1 < 2 ^ 62 ∧ -(2 ^ 62) ≤ a.2.1 ∧ a.2.1 < 2 ^ 62)) (rng a.1 (a.2.1 - a.1).toNat)
def enumL {α : Type} (as : List α) : List (Int × α) := as.mapIdx fun i a => ((i : Int), a)
def enumR {α : Type} (a : List α × Unit) : Res (List (Int × α)) := .ok (enumL a.1)

section
variable [TabC] {X : Cx} {S α β γ A ρ : Type} {xr : XR} {W : WX} {ss : SS X.K S} {pos : Pos} {e1 e2 : Expr} {ma mb : S → Res Int}
theorem ee_add (ea : EE X xr W ss e1 (pers rInt) ma) (eb : EE X xr W ss e2 (pers rInt) mb) : EE X xr W ss (.BinOp e1 .Add e2 pos) (pers rInt) (b2 addR ma mb) :=
  ee_bin op_add ea eb fun _ _ _ _ _ a b _ _ _ s h1 h2 hw => ⟨a, b, h1, h2, hw.here s rfl⟩
theorem ee_sub (ea : EE X xr W ss e1 (pers rInt) ma) (eb : EE X xr W ss e2 (pers rInt) mb) : EE X xr W ss (.BinOp e1 .Sub e2 pos) (pers rInt) (b2 subR ma mb) :=
  ee_bin op_sub ea eb fun _ _ _ _ _ a b _ _ _ s h1 h2 hw => ⟨a, b, h1, h2, hw.here s rfl⟩
theorem ee_mul (ea : EE X xr W ss e1 (pers rInt) ma) (eb : EE X xr W ss e2 (pers rInt) mb) : EE X xr W ss (.BinOp e1 .Mult e2 pos) (pers rInt) (b2 mulR ma mb) :=
  ee_bin (OpR.or op_mul op_mulW) ea eb fun _ _ _ _ _ a b _ _ _ s h1 h2 hw => by
    obtain ⟨hc, hw⟩ := Want.grd hw
    have hc : (decide (-(2 ^ 64) < a ∧ a < 2 ^ 64) || decide (-(2 ^ 64) < b ∧ b < 2 ^ 64) || decide (a.natAbs.log2 + b.natAbs.log2 < 1000000)) = true := hc
    simp only [Bool.or_eq_true, decide_eq_true_eq] at hc
    rcases hc with hc | hc
    · exact .inl ⟨a, b, h1, h2, hc, hw.here s rfl⟩
    · exact .inr ⟨a, b, h1, h2, hc, hw.here s rfl⟩
theorem ee_fdiv (ea : EE X xr W ss e1 (pers rInt) ma) (eb : EE X xr W ss e2 (pers rInt) mb) : EE X xr W ss (.BinOp e1 .FloorDiv e2 pos) (pers rInt) (b2 fdivR ma mb) :=
  ee_bin op_fdivW ea eb fun _ _ _ _ _ a b _ _ _ s h1 h2 hw => by
    obtain ⟨hc, hw⟩ := Want.grd hw
    have hc : (decide (0 < b) && decide (b.natAbs.log2 < 9000)) = true := hc
    simp only [Bool.and_eq_true, decide_eq_true_eq] at hc
    exact ⟨a, b, h1, h2, hc, hw.here s rfl⟩
theorem ee_mod (ea : EE X xr W ss e1 (pers rInt) ma) (eb : EE X xr W ss e2 (pers rInt) mb) : EE X xr W ss (.BinOp e1 .Mod e2 pos) (pers rInt) (b2 modR ma mb) :=
  ee_bin op_mod ea eb fun _ _ _ _ _ a b _ _ _ s h1 h2 hw => by
    obtain ⟨hc, hw⟩ := Want.grd hw
    exact ⟨a, b, h1, h2, of_decide_eq_true hc, hw.here s rfl⟩
theorem ee_pow (ea : EE X xr W ss e1 (pers rInt) ma) (eb : EE X xr W ss e2 (pers rInt) mb) : EE X xr W ss (.BinOp e1 .Pow e2 pos) (pers rInt) (b2 powR ma mb) :=
  ee_bin op_pow ea eb fun _ _ _ _ _ a b _ _ _ s h1 h2 hw => by
    obtain ⟨hc, hw⟩ := Want.grd hw
    have hc : 0 ≤ b ∧ b ≤ 1000000 ∧ a.natAbs < 2 ^ 64 := of_decide_eq_true hc
    exact ⟨a, b, h1, h2, hc, hw.here s rfl⟩
theorem ee_neg (ea : EE X xr W ss e1 (pers rInt) ma) : EE X xr W ss (.UnaryOp .USub e1 pos) (pers rInt) (u1 negR ma) := by
  obtain ⟨t, p, d⟩ := ea.ex
  refine ⟨_, pe_un un_neg p, fun F0 B F H σ s Q a hw => ?_⟩
  exact d.go a hw fun a v F1 H1 _ at1 g1 p1 hw1 => ⟨a, p1, hw1.here at1.fh rfl⟩

/-! comparisons: as values, as tests -/
theorem ee_lt (ea : EE X xr W ss e1 (pers rInt) ma) (eb : EE X xr W ss e2 (pers rInt) mb) : EE X xr W ss (.Compare e1 [.Lt] [e2] pos) (pers rBool) (b2 ltR ma mb) :=
  ee_cmp op_lt ea eb fun _ _ _ _ _ a b _ _ _ s h1 h2 hw => ⟨a, b, h1, h2, hw.here s rfl⟩
theorem ee_le (ea : EE X xr W ss e1 (pers rInt) ma) (eb : EE X xr W ss e2 (pers rInt) mb) : EE X xr W ss (.Compare e1 [.LtE] [e2] pos) (pers rBool) (b2 leR ma mb) :=
  ee_cmp op_le ea eb fun _ _ _ _ _ a b _ _ _ s h1 h2 hw => ⟨a, b, h1, h2, hw.here s rfl⟩
theorem ee_gt (ea : EE X xr W ss e1 (pers rInt) ma) (eb : EE X xr W ss e2 (pers rInt) mb) : EE X xr W ss (.Compare e1 [.Gt] [e2] pos) (pers rBool) (b2 gtR ma mb) :=
  ee_cmp op_gt ea eb fun _ _ _ _ _ a b _ _ _ s h1 h2 hw => ⟨a, b, h1, h2, hw.here s rfl⟩
theorem ee_ge (ea : EE X xr W ss e1 (pers rInt) ma) (eb : EE X xr W ss e2 (pers rInt) mb) : EE X xr W ss (.Compare e1 [.GtE] [e2] pos) (pers rBool) (b2 geR ma mb) :=
  ee_cmp op_ge ea eb fun _ _ _ _ _ a b _ _ _ s h1 h2 hw => ⟨a, b, h1, h2, hw.here s rfl⟩
theorem tj_lt (ea : EE X xr W ss e1 (pers rInt) ma) (eb : EE X xr W ss e2 (pers rInt) mb) : TJ X xr W ss (.Compare e1 [.Lt] [e2] pos) (b2 ltR ma mb) :=
  tj_cmp op_lt ea eb fun _ _ _ _ _ a b _ _ _ s h1 h2 hw => ⟨a, b, h1, h2, hw.here s rfl⟩
theorem tj_le (ea : EE X xr W ss e1 (pers rInt) ma) (eb : EE X xr W ss e2 (pers rInt) mb) : TJ X xr W ss (.Compare e1 [.LtE] [e2] pos) (b2 leR ma mb) :=
  tj_cmp op_le ea eb fun _ _ _ _ _ a b _ _ _ s h1 h2 hw => ⟨a, b, h1, h2, hw.here s rfl⟩
theorem tj_gt (ea : EE X xr W ss e1 (pers rInt) ma) (eb : EE X xr W ss e2 (pers rInt) mb) : TJ X xr W ss (.Compare e1 [.Gt] [e2] pos) (b2 gtR ma mb) :=
  tj_cmp op_gt ea eb fun _ _ _ _ _ a b _ _ _ s h1 h2 hw => ⟨a, b, h1, h2, hw.here s rfl⟩
theorem tj_ge (ea : EE X xr W ss e1 (pers rInt) ma) (eb : EE X xr W ss e2 (pers rInt) mb) : TJ X xr W ss (.Compare e1 [.GtE] [e2] pos) (b2 geR ma mb) :=
  tj_cmp op_ge ea eb fun _ _ _ _ _ a b _ _ _ s h1 h2 hw => ⟨a, b, h1, h2, hw.here s rfl⟩

/-! ### data that == tells apart -/
end
structure DE {K : PySem.W.Frag} {α : Type} [DecidableEq α] (R : RT K α) (n : Nat) where
  enc : α → PyData
  dp : ∀ {H : Hp} {v : V} {a : α}, R.r H v a → Dp K H v (enc a)
  lay : ∀ {H : Hp} {v : V} {a : α}, R.r H v a → (enc a).canLay0 = true
  dep : ∀ a, (enc a).depth ≤ n
  eq : ∀ a b, PyData.eqv (enc a) (enc b) = decide (a = b)
structure DET {K : PySem.W.Frag} {α : Type} [DecidableEq α] (R : TR K α) (n : Nat) where
  enc : α → List PyData
  dp : ∀ {H : Hp} {v : List V} {a : α}, R.r H v a → DpAll K H v (enc a)
  lay : ∀ {H : Hp} {v : List V} {a : α}, R.r H v a → PyData.canLayAll0 (enc a) = true
  dep : ∀ a, PyData.depthAll (enc a) ≤ n
  eq : ∀ a b, PyData.eqvAll (enc a) (enc b) = decide (a = b)
section
variable [TabC] {K : PySem.W.Frag} {α β : Type} [DecidableEq α] [DecidableEq β]
def deInt : DE (rInt (K := K)) 0 := ⟨PyData.int, fun h => by cases h; exact .int _, fun _ => by simp [PyData.canLay0], fun _ => by simp [PyData.depth], fun a b => by simp [PyData.eqv, Bool.beq_eq_decide_eq]⟩
def deStr : DE (rStr (K := K)) 0 := ⟨PyData.str, fun h => by rw [h.1]; exact .str _, fun h => h.2, fun _ => by simp [PyData.depth], fun a b => by rw [PyData.eqv]; exact (by cases e : decide (a = b) with | true => rw [of_decide_eq_true e]; exact beq_self_eq_true b | false => exact beq_eq_false_iff_ne.mpr (of_decide_eq_false e))⟩
def deBool : DE (rBool (K := K)) 0 := ⟨PyData.bool, fun h => by cases h; exact .bl _, fun _ => by simp [PyData.canLay0], fun _ => by simp [PyData.depth], fun a b => by simp [PyData.eqv, Bool.beq_eq_decide_eq]⟩
theorem all_enc {f : α → PyData} {n : Nat} (hd : ∀ a, (f a).depth ≤ n) (he : ∀ a b, PyData.eqv (f a) (f b) = decide (a = b)) :
    (∀ as : List α, PyData.depthAll (as.map f) ≤ n) ∧ ∀ as bs : List α, PyData.eqvAll (as.map f) (bs.map f) = decide (as = bs) := by
  refine ⟨fun as => ?_, fun as => ?_⟩
  · induction as with
    | nil => simp [PyData.depthAll]
    | cons a as ih =>
      have := hd a
      simp only [List.map_cons, PyData.depthAll]
      omega
  · induction as with
    | nil =>
      intro bs
      cases bs <;> simp [PyData.eqvAll]
    | cons a as ih =>
      intro bs
      cases bs with
      | nil => simp [PyData.eqvAll]
      | cons b bs =>
        simp only [List.map_cons, PyData.eqvAll, he, ih]
        by_cases h1 : a = b <;> by_cases h2 : as = bs <;> simp [h1, h2]
omit [TabC] in
theorem dp_all {R : RT K α} {f : α → PyData} {H : Hp} (h : ∀ v a, R.r H v a → Dp K H v (f a)) : ∀ {vs : List V} {as : List α}, Ps R H vs as → DpAll K H vs (as.map f)
  | _, _, .nil => .nil
  | _, _, .cons r t => .cons (h _ _ r) (dp_all h t)
omit [TabC] in
theorem lay_all {R : RT K α} {f : α → PyData} {H : Hp} (h : ∀ v a, R.r H v a → (f a).canLay0 = true) : ∀ {vs : List V} {as : List α}, Ps R H vs as → PyData.canLayAll0 (as.map f) = true
  | _, _, .nil => by simp [PyData.canLayAll0]
  | _, _, .cons r t => by simp [PyData.canLayAll0, h _ _ r, lay_all h t]
omit [TabC] in
def deSeq {R : RT K α} {n : Nat} (d : DE R n) : DE (rSeq R) (n + 1) := ⟨fun as => .list (as.map d.enc), fun h => by
  obtain ⟨p, vs, rfl, h1, ps⟩ := h
  exact .lst h1 (dp_all (fun _ _ r => d.dp r) ps), fun h => by
  obtain ⟨p, vs, rfl, h1, ps⟩ := h
  simp only [PyData.canLay0]
  exact lay_all (fun _ _ r => d.lay r) ps, fun as => by
  have := (all_enc d.dep d.eq).1 as
  simp only [PyData.depth]
  omega, fun as bs => by
  simp only [PyData.eqv]
  exact (all_enc d.dep d.eq).2 as bs⟩
omit [TabC] in
def deList {R : RT K α} {n : Nat} (d : DE R n) : DE (rList R) (n + 1) := ⟨(deSeq d).enc, fun h => (deSeq d).dp (by
  obtain ⟨p, vs, rfl, h1, ps⟩ := h
  exact ⟨p, vs, rfl, SqL.of h1, ps⟩), fun {H v a} h => (deSeq d).lay (H := H) (v := v) (by
  obtain ⟨p, vs, rfl, h1, ps⟩ := h
  exact ⟨p, vs, rfl, SqL.of h1, ps⟩), (deSeq d).dep, (deSeq d).eq⟩
def det1 {R : RT K α} {n : Nat} (d : DE R n) : DET (t1 R) n := ⟨fun a => [d.enc a], fun h => by
  obtain ⟨v, rfl, r⟩ := h
  exact .cons (d.dp r) .nil, fun h => by
  obtain ⟨v, rfl, r⟩ := h
  simp [PyData.canLayAll0, d.lay r], fun a => by
  have := d.dep a
  simp only [PyData.depthAll]
  omega, fun a b => by simp [PyData.eqvAll, d.eq]⟩
def detC {R : RT K α} {T : TR K β} {n : Nat} (d : DE R n) (t : DET T n) : DET (tC R T) n := ⟨fun a => d.enc a.1 :: t.enc a.2, fun h => by
  obtain ⟨v, r, rfl, h1, h2⟩ := h
  exact .cons (d.dp h1) (t.dp h2), fun h => by
  obtain ⟨v, r, rfl, h1, h2⟩ := h
  simp [PyData.canLayAll0, d.lay h1, t.lay h2], fun a => by
  have := d.dep a.1
  have := t.dep a.2
  simp only [PyData.depthAll]
  omega, fun a b => by
  simp only [PyData.eqvAll, d.eq, t.eq]
  obtain ⟨a1, a2⟩ := a
  obtain ⟨b1, b2⟩ := b
  by_cases h1 : a1 = b1 <;> by_cases h2 : a2 = b2 <;> simp [h1, h2]⟩
def deTup {T : TR K α} {n : Nat} (d : DET T n) : DE (rTup T) (n + 1) := ⟨fun a => .tuple (d.enc a), fun h => by
  obtain ⟨p, vs, rfl, h1, r⟩ := h
  exact .tup (SqT.of h1) (d.dp r), fun h => by
  obtain ⟨p, vs, rfl, h1, r⟩ := h
  simp only [PyData.canLay0]
  exact d.lay r, fun a => by
  have := d.dep a
  simp only [PyData.depth]
  omega, fun a b => by
  simp only [PyData.eqv]
  exact d.eq a b⟩
omit [TabC] in
theorem DE.shaped {R : RT K α} {n : Nat} (d : DE R n) (hn : n ≤ 60) {H : Hp} {v : V} {a : α} (r : R.r H v a) : SeqAt.shaped (d.enc a) = true := by
  have h := d.dep a
  show ((d.enc a).canLay0 && decide ((d.enc a).depth ≤ 64)) = true
  rw [Bool.and_eq_true]
  exact ⟨d.lay r, decide_eq_true (by omega)⟩
end
section
variable [TabC] {X : Cx} {S α β γ A ρ : Type} {xr : XR} {W : WX} {ss : SS X.K S} {pos : Pos} {e1 e2 : Expr}
variable [DecidableEq α]
omit [TabC] in
theorem hu_of' {A : Around} {k : Nat} (hr : Room k A) : A.units + 65 < cLine := by have := hr.un; omega
theorem eq_raw {R : RT X.K α} {n : Nat} (d : DE R n) (hn : n ≤ 60) (H0 F H : Hp) (x y : V) (a b : α) (E : XK) (Q : VK) (_ : Same H0 H) (s : Same F H) (h1 : (trn R).p H0 F H x a) (h2 : (trn R).p H0 F H y b) (hw : Want xr (pers (K := X.K) rBool) E H0 F H (eqR a b) Q) : rEqD X.K x y H Q :=
  ⟨d.enc a, d.enc b, d.dp h1, d.dp h2, d.shaped hn h1, d.shaped hn h2, by rw [d.eq]; exact hw.here s rfl⟩
theorem ne_raw {R : RT X.K α} {n : Nat} (d : DE R n) (hn : n ≤ 60) (H0 F H : Hp) (x y : V) (a b : α) (E : XK) (Q : VK) (_ : Same H0 H) (s : Same F H) (h1 : (trn R).p H0 F H x a) (h2 : (trn R).p H0 F H y b) (hw : Want xr (pers (K := X.K) rBool) E H0 F H (neR a b) Q) : rNeD X.K x y H Q :=
  ⟨d.enc a, d.enc b, d.dp h1, d.dp h2, d.shaped hn h1, d.shaped hn h2, by rw [d.eq]; exact hw.here s rfl⟩
theorem ee_eq {R : RT X.K α} {n k : Nat} {ma mb : S → Res α} (d : DE R n) (hr : Room k X.A) (ea : EE X xr W ss e1 (trn R) ma) (eb : EE X xr W ss e2 (trn R) mb) (hn : n ≤ 60 := by decide) : EE X xr W ss (.Compare e1 [.Eq] [e2] pos) (pers rBool) (b2 eqR ma mb) := ee_cmp (op_eqD hr.units) ea eb (eq_raw d hn)
theorem ee_ne {R : RT X.K α} {n k : Nat} {ma mb : S → Res α} (d : DE R n) (hr : Room k X.A) (ea : EE X xr W ss e1 (trn R) ma) (eb : EE X xr W ss e2 (trn R) mb) (hn : n ≤ 60 := by decide) : EE X xr W ss (.Compare e1 [.NotEq] [e2] pos) (pers rBool) (b2 neR ma mb) := ee_cmp (op_neD hr.units) ea eb (ne_raw d hn)
theorem tj_eq {R : RT X.K α} {n k : Nat} {ma mb : S → Res α} (d : DE R n) (hr : Room k X.A) (ea : EE X xr W ss e1 (trn R) ma) (eb : EE X xr W ss e2 (trn R) mb) (hn : n ≤ 60 := by decide) : TJ X xr W ss (.Compare e1 [.Eq] [e2] pos) (b2 eqR ma mb) := tj_cmp (op_eqD hr.units) ea eb (eq_raw d hn)
theorem tj_ne {R : RT X.K α} {n k : Nat} {ma mb : S → Res α} (d : DE R n) (hr : Room k X.A) (ea : EE X xr W ss e1 (trn R) ma) (eb : EE X xr W ss e2 (trn R) mb) (hn : n ≤ 60 := by decide) : TJ X xr W ss (.Compare e1 [.NotEq] [e2] pos) (b2 neR ma mb) := tj_cmp (op_neD hr.units) ea eb (ne_raw d hn)
omit [TabC] in
theorem any_enc {f : α → PyData} (he : ∀ a b, PyData.eqv (f a) (f b) = decide (a = b)) (a : α) : ∀ as : List α, ((as.map f).any fun z => PyData.eqv z (f a)) = decide (a ∈ as)
  | [] => by simp
  | b :: bs => by
    rw [List.map_cons, List.any_cons, any_enc he a bs, he]
    by_cases h1 : b = a
    · subst h1
      simp
    · have h2 : ¬ a = b := fun z => h1 z.symm
      by_cases h3 : a ∈ bs <;> simp [h1, h2, h3]
theorem in_raw {R : RT X.K α} {n : Nat} (d : DE R n) (hn : n ≤ 50) (H0 F H : Hp) (x y : V) (a : α) (b : List α) (E : XK) (Q : VK) (_ : Same H0 H) (s : Same F H) (h1 : (trn R).p H0 F H x a) (h2 : (trn (rSeq R)).p H0 F H y b) (hw : Want xr (pers (K := X.K) rBool) E H0 F H (inR a b) Q) : rInD X.K x y H Q :=
  ⟨d.enc a, b.map d.enc, d.dp h1, (deSeq d).dp h2, d.shaped (by omega) h1, (deSeq d).shaped (by omega) h2, by rw [any_enc d.eq]; exact hw.here s rfl⟩
theorem ni_raw {R : RT X.K α} {n : Nat} (d : DE R n) (hn : n ≤ 50) (H0 F H : Hp) (x y : V) (a : α) (b : List α) (E : XK) (Q : VK) (_ : Same H0 H) (s : Same F H) (h1 : (trn R).p H0 F H x a) (h2 : (trn (rSeq R)).p H0 F H y b) (hw : Want xr (pers (K := X.K) rBool) E H0 F H (niR a b) Q) : rNotInD X.K x y H Q :=
  ⟨d.enc a, b.map d.enc, d.dp h1, (deSeq d).dp h2, d.shaped (by omega) h1, (deSeq d).shaped (by omega) h2, by rw [any_enc d.eq]; exact hw.here s rfl⟩
theorem ee_in {R : RT X.K α} {n k : Nat} {ma : S → Res α} {mb : S → Res (List α)} (d : DE R n) (hr : Room k X.A) (ea : EE X xr W ss e1 (trn R) ma) (eb : EE X xr W ss e2 (trn (rSeq R)) mb) (hn : n ≤ 50 := by decide) (hm : behindInMarks .In e2 = false := by rfl) : EE X xr W ss (.Compare e1 [.In] [e2] pos) (pers rBool) (b2 inR ma mb) :=
  ee_cmp (op_inD (hu_of' hr)) ea eb (in_raw d hn) hm
theorem ee_ni {R : RT X.K α} {n k : Nat} {ma : S → Res α} {mb : S → Res (List α)} (d : DE R n) (hr : Room k X.A) (ea : EE X xr W ss e1 (trn R) ma) (eb : EE X xr W ss e2 (trn (rSeq R)) mb) (hn : n ≤ 50 := by decide) (hm : behindInMarks .NotIn e2 = false := by rfl) : EE X xr W ss (.Compare e1 [.NotIn] [e2] pos) (pers rBool) (b2 niR ma mb) :=
  ee_cmp (op_notInD (hu_of' hr)) ea eb (ni_raw d hn) hm
theorem tj_in {R : RT X.K α} {n k : Nat} {ma : S → Res α} {mb : S → Res (List α)} (d : DE R n) (hr : Room k X.A) (ea : EE X xr W ss e1 (trn R) ma) (eb : EE X xr W ss e2 (trn (rSeq R)) mb) (hn : n ≤ 50 := by decide) (hm : behindInMarks .In e2 = false := by rfl) : TJ X xr W ss (.Compare e1 [.In] [e2] pos) (b2 inR ma mb) :=
  tj_cmp (op_inD (hu_of' hr)) ea eb (in_raw d hn) hm
theorem tj_ni {R : RT X.K α} {n k : Nat} {ma : S → Res α} {mb : S → Res (List α)} (d : DE R n) (hr : Room k X.A) (ea : EE X xr W ss e1 (trn R) ma) (eb : EE X xr W ss e2 (trn (rSeq R)) mb) (hn : n ≤ 50 := by decide) (hm : behindInMarks .NotIn e2 = false := by rfl) : TJ X xr W ss (.Compare e1 [.NotIn] [e2] pos) (b2 niR ma mb) :=
  tj_cmp (op_notInD (hu_of' hr)) ea eb (ni_raw d hn) hm
end
section
variable [TabC] {X : Cx} {S α β γ A ρ : Type} {xr : XR} {W : WX} {ss : SS X.K S} {pos : Pos} {e1 e2 : Expr}
theorem EE.st {e : Expr} {R : RT X.K α} {m : S → Res (List α)} (h : EE X xr W ss e (seq R) m) : EE X xr W ss e (trn (rSeq R)) m := h.same fun _ _ _ _ _ s hp => by
  obtain ⟨p, vs, ev, h1, ps⟩ := hp
  exact ⟨p, vs, ev, h1, ps.mono s⟩
/-! is None, is True -/
omit [TabC] in
theorem opt_non {R : RT X.K α} {F : Hp} {x : V} {a : Option α} (h : (rOpt R).r F x a) : decide (x = .non) = a.isNone := by
  cases a with
  | none =>
    have h : x = .non := h
    rw [h]
    rfl
  | some a => exact decide_eq_false h.1
theorem is_raw {R : RT X.K α} (H0 F H : Hp) (x y : V) (a : Option α) (b : Unit) (E : XK) (Q : VK) (_ : Same H0 H) (s : Same F H) (h1 : (pers (rOpt R)).p H0 F H x a) (h2 : (pers (K := X.K) rUnit).p H0 F H y b) (hw : Want xr (pers (K := X.K) rBool) E H0 F H (isNR a b) Q) : y = .non ∧ Q (.bl (decide (x = .non))) H :=
  ⟨h2, by rw [opt_non h1]; exact hw.here s rfl⟩
theorem isnt_raw {R : RT X.K α} (H0 F H : Hp) (x y : V) (a : Option α) (b : Unit) (E : XK) (Q : VK) (_ : Same H0 H) (s : Same F H) (h1 : (pers (rOpt R)).p H0 F H x a) (h2 : (pers (K := X.K) rUnit).p H0 F H y b) (hw : Want xr (pers (K := X.K) rBool) E H0 F H (notNR a b) Q) : y = .non ∧ Q (.bl (!decide (x = .non))) H :=
  ⟨h2, by
    rw [opt_non h1]
    have e : (!a.isNone) = a.isSome := by cases a <;> rfl
    rw [e]
    exact hw.here s rfl⟩
theorem ee_isN {R : RT X.K α} {ma : S → Res (Option α)} {mb : S → Res Unit} (ea : EE X xr W ss e1 (pers (rOpt R)) ma) (eb : EE X xr W ss e2 (pers rUnit) mb) : EE X xr W ss (.Compare e1 [.Is] [e2] pos) (pers rBool) (b2 isNR ma mb) := ee_cmp op_isN ea eb is_raw
theorem ee_notN {R : RT X.K α} {ma : S → Res (Option α)} {mb : S → Res Unit} (ea : EE X xr W ss e1 (pers (rOpt R)) ma) (eb : EE X xr W ss e2 (pers rUnit) mb) : EE X xr W ss (.Compare e1 [.IsNot] [e2] pos) (pers rBool) (b2 notNR ma mb) := ee_cmp op_notN ea eb isnt_raw
theorem tj_isN {R : RT X.K α} {ma : S → Res (Option α)} {mb : S → Res Unit} (ea : EE X xr W ss e1 (pers (rOpt R)) ma) (eb : EE X xr W ss e2 (pers rUnit) mb) : TJ X xr W ss (.Compare e1 [.Is] [e2] pos) (b2 isNR ma mb) := tj_cmp op_isN ea eb is_raw
theorem tj_notN {R : RT X.K α} {ma : S → Res (Option α)} {mb : S → Res Unit} (ea : EE X xr W ss e1 (pers (rOpt R)) ma) (eb : EE X xr W ss e2 (pers rUnit) mb) : TJ X xr W ss (.Compare e1 [.IsNot] [e2] pos) (b2 notNR ma mb) := tj_cmp op_notN ea eb isnt_raw
theorem ee_isB {ma mb : S → Res Bool} (ea : EE X xr W ss e1 (pers rBool) ma) (eb : EE X xr W ss e2 (pers rBool) mb) : EE X xr W ss (.Compare e1 [.Is] [e2] pos) (pers rBool) (b2 isBR ma mb) :=
  ee_cmp op_isBl ea eb fun _ _ _ _ _ a b _ _ _ s h1 h2 hw => ⟨a, b, h1, h2, hw.here s rfl⟩
theorem ee_notB {ma mb : S → Res Bool} (ea : EE X xr W ss e1 (pers rBool) ma) (eb : EE X xr W ss e2 (pers rBool) mb) : EE X xr W ss (.Compare e1 [.IsNot] [e2] pos) (pers rBool) (b2 notBR ma mb) :=
  ee_cmp op_notBl ea eb fun _ _ _ _ _ a b _ _ _ s h1 h2 hw => ⟨a, b, h1, h2, hw.here s rfl⟩
theorem tj_isB {ma mb : S → Res Bool} (ea : EE X xr W ss e1 (pers rBool) ma) (eb : EE X xr W ss e2 (pers rBool) mb) : TJ X xr W ss (.Compare e1 [.Is] [e2] pos) (b2 isBR ma mb) :=
  tj_cmp op_isBl ea eb fun _ _ _ _ _ a b _ _ _ s h1 h2 hw => ⟨a, b, h1, h2, hw.here s rfl⟩
theorem tj_notB {ma mb : S → Res Bool} (ea : EE X xr W ss e1 (pers rBool) ma) (eb : EE X xr W ss e2 (pers rBool) mb) : TJ X xr W ss (.Compare e1 [.IsNot] [e2] pos) (b2 notBR ma mb) :=
  tj_cmp op_notBl ea eb fun _ _ _ _ _ a b _ _ _ s h1 h2 hw => ⟨a, b, h1, h2, hw.here s rfl⟩

/-! subscripts -/
omit [TabC] in
theorem ps_at {K : PySem.W.Frag} {R : RT K α} {F : Hp} {vs : List V} {as : List α} {i : Int} {a : α} (ps : Ps R F vs as) (h : atI as i = some a) : ∃ v, atI vs i = some v ∧ R.r F v a := by
  have e : vs.length = as.length := Paired.length ps
  have h : ((ixN as.length i).bind fun j => as[j]?) = some a := h
  show ∃ v, ((ixN vs.length i).bind fun j => vs[j]?) = some v ∧ R.r F v a
  rw [e]
  cases q : ixN as.length i with
  | none =>
    rw [q] at h
    cases h
  | some j =>
    rw [q] at h
    exact Paired.get2 ps h
theorem ee_ix {R : RT X.K α} {ma : S → Res (List α)} {mb : S → Res Int} (ea : EE X xr W ss e1 (seq R) ma) (eb : EE X xr W ss e2 (pers rInt) mb) (hx : PlainIx e2 := by exact fun _ _ => rfl) : EE X xr W ss (.Subscript e1 e2 pos) (pers R) (b2 ixR ma mb) := by
  obtain ⟨t, p, d⟩ := ea.ex
  obtain ⟨t', p', d'⟩ := eb.ex
  refine ⟨_, pe_ix ix_list p p' hx, bin_ (e1 := e1) (e2 := e2) d d' fun _ F H x y a b E Q _ s h1 h2 hw => ?_⟩
  obtain ⟨q, vs, rfl, hq, ps⟩ := h1
  obtain ⟨z, ez, hw⟩ := Want.opt hw
  obtain ⟨v, hv, r⟩ := ps_at ps ez
  exact ⟨q, vs, b, v, rfl, h2, hq, hv, hw.here s r⟩
/-- a place of a tuple -/
structure TSel {K : PySem.W.Frag} (T : TR K α) (i : Nat) (R : RT K β) (f : α → β) : Prop where
  sel : ∀ {H : Hp} {vs : List V} {a : α}, T.r H vs a → ∃ v, vs[i]? = some v ∧ R.r H v (f a)
omit [TabC] in
theorem TSel.one {K : PySem.W.Frag} {R : RT K α} : TSel (t1 R) 0 R (fun a => a) := ⟨fun h => by
  obtain ⟨v, rfl, r⟩ := h
  exact ⟨v, rfl, r⟩⟩
omit [TabC] in
theorem TSel.z {K : PySem.W.Frag} {R : RT K α} {T : TR K β} : TSel (tC R T) 0 R (fun a => a.1) := ⟨fun h => by
  obtain ⟨v, r, rfl, h, _⟩ := h
  exact ⟨v, rfl, h⟩⟩
omit [TabC] in
theorem TSel.s {K : PySem.W.Frag} {R : RT K γ} {R' : RT K α} {T : TR K β} {f : β → γ} {i : Nat} (h : TSel T i R f) : TSel (tC R' T) (i + 1) R (fun a => f a.2) := ⟨fun q => by
  obtain ⟨v, r, rfl, _, q⟩ := q
  obtain ⟨u, e, z⟩ := h.sel q
  exact ⟨u, e, z⟩⟩
def selR (f : α → β) (a : α) : Res β := .ok (f a)
theorem ee_tix {T : TR X.K α} {R : RT X.K β} {f : α → β} {i j : Nat} {p' : Pos} {ma : S → Res α} (ts : TSel T i R f) (ea : EE X xr W ss e1 (pers (rTup T)) ma) (hx : PlainIx (.Constant (.int (i : Int)) j p') := by exact fun _ _ => rfl) :
    EE X xr W ss (.Subscript e1 (.Constant (.int (i : Int)) j p') pos) (pers R) (u1 (selR f) ma) := by
  obtain ⟨t, p, d⟩ := ea.ex
  refine ⟨_, pe_ix ix_tup p pe_int hx, fun F0 B F H σ s Q a hw => ?_⟩
  refine d.go a hw fun a v F1 H1 _ at1 g1 p1 hw1 => ?_
  obtain ⟨q, vs, rfl, hq, r⟩ := p1
  obtain ⟨u, hu, z⟩ := ts.sel r
  exact ⟨q, vs, (i : Int), u, rfl, rfl, SqT.of (at1.fh.k hq), atI_nat hu, hw1.here at1.fh z⟩

/-! lists: +, *, slices -/
theorem ee_cat {R : RT X.K α} {ma mb : S → Res (List α)} (ea : EE X xr W ss e1 (lst R) ma) (eb : EE X xr W ss e2 (lst R) mb) : EE X xr W ss (.BinOp e1 .Add e2 pos) (fre R) (b2 catR ma mb) :=
  ee_bin op_cat ea eb fun H0 F H x y a b E Q s0 s h1 h2 hw => by
    obtain ⟨p, vs, rfl, hp, ps⟩ := h1
    obtain ⟨q, us, rfl, hq, qs⟩ := h2
    obtain ⟨hc, hw⟩ := Want.grd hw
    have hc : a.length + b.length ≤ 16777216 := of_decide_eq_true hc
    refine ⟨p, q, vs, us, rfl, rfl, hp, hq, by rw [sizeLine_eq, show vs.length = a.length from Paired.length ps, show us.length = b.length from Paired.length qs]; exact hc, fun r hr => ?_⟩
    exact hw _ F _ (.newH s hr) ⟨r, _, rfl, s0.free hr, upd_same, s.free hr, Paired.app ps qs⟩
omit [TabC] in
theorem Paired.rep {α β : Type} {P : α → β → Prop} {xs : List α} {ys : List β} (h : Paired P xs ys) : ∀ k : Nat, Paired P (List.replicate k xs).flatten (List.replicate k ys).flatten
  | 0 => .nil
  | k + 1 => by
    rw [List.replicate_succ, List.replicate_succ, List.flatten_cons, List.flatten_cons]
    exact Paired.app h (Paired.rep h k)
theorem ee_rep {R : RT X.K α} {ma : S → Res (List α)} {mb : S → Res Int} (ea : EE X xr W ss e1 (lst R) ma) (eb : EE X xr W ss e2 (pers rInt) mb) : EE X xr W ss (.BinOp e1 .Mult e2 pos) (fre R) (b2 repR ma mb) :=
  ee_bin op_rep ea eb fun H0 F H x y a b E Q s0 s h1 h2 hw => by
    obtain ⟨p, vs, rfl, hp, ps⟩ := h1
    obtain ⟨hc, hw⟩ := Want.grd hw
    have hc : -(2 ^ 63) ≤ b ∧ b < 2 ^ 63 ∧ a.length * b.toNat ≤ 16777216 := of_decide_eq_true hc
    refine ⟨p, b, vs, rfl, h2, hp, hc.1, hc.2.1, by rw [sizeLine_eq, show vs.length = a.length from Paired.length ps]; exact hc.2.2, fun r hr => ?_⟩
    exact hw _ F _ (.newH s hr) ⟨r, _, rfl, s0.free hr, upd_same, s.free hr, Paired.rep ps _⟩
structure OO (X : Cx) (xr : XR) (W : WX) (ss : SS X.K S) (e : Option Expr) (m : S → Res (Option Int)) : Prop where
  ex : ∃ t, PO X e t ∧ Does xr W ss t (⟨fun _ _ _ v a => v = a, fun _ _ h => h, fun _ h => h⟩ : RK X.K (Option Int) (Option Int)) m
def cSome (m : S → Res Int) : S → Res (Option Int) := fun s => (m s).bind fun a => .ok (some a)
theorem oo_none : OO X xr W ss none (cK none) := ⟨_, po_none, fun F0 B F H σ s Q a hw => hw none F H (.refl a.fh) rfl⟩
theorem oo_some {e : Expr} {m : S → Res Int} (h : EE X xr W ss e (pers rInt) m) : OO X xr W ss (some e) (cSome m) := by
  obtain ⟨t, p, d⟩ := h.ex
  refine ⟨_, po_some p, fun F0 B F H σ s Q a hw => ?_⟩
  exact d.go a hw fun a v F1 H1 _ at1 g1 p1 hw1 => ⟨a, p1, hw1.here at1.fh rfl⟩
def cCut (m : S → Res (List α)) (lo hi : S → Res (Option Int)) : S → Res (List α) := fun s => (m s).bind fun as => (lo s).bind fun l => (hi s).bind fun h => .ok (cut as l h)
omit [TabC] in
theorem ps_cut {K : PySem.W.Frag} {R : RT K α} {F : Hp} {vs : List V} {as : List α} (ps : Ps R F vs as) (lo hi : Option Int) : Ps R F (cutV vs lo hi) (cut as lo hi) := by
  have e : vs.length = as.length := Paired.length ps
  show Ps R F ((vs.drop (HT.sIx vs.length 0 lo)).take (HT.sIx vs.length vs.length hi - HT.sIx vs.length 0 lo)) _
  rw [e]
  exact Paired.tk _ (Paired.dr _ ps)
theorem ee_cut {R : RT X.K α} {lo hi : Option Expr} {p2 : Pos} {m : S → Res (List α)} {ml mh : S → Res (Option Int)} (ea : EE X xr W ss e1 (seq R) m) (hl : OO X xr W ss lo ml) (hh : OO X xr W ss hi mh) : EE X xr W ss (.Subscript e1 (.Slice lo hi none p2) pos) (fre R) (cCut m ml mh) := by
  obtain ⟨t, p, d⟩ := ea.ex
  obtain ⟨tl, pl, dl⟩ := hl.ex
  obtain ⟨th, ph, dh⟩ := hh.ex
  refine ⟨_, pe_slice sl_list p pl ph, fun F0 B F H σ s Q a hw => ?_⟩
  refine d.go a hw fun as v F1 H1 _ at1 g1 p1 hw1 => ?_
  refine dl.go at1 hw1 fun l l' F2 H2 _ at2 g2 p2 hw2 => ?_
  refine dh.go at2 hw2 fun h h' F3 H3 _ at3 g3 p3 hw3 => ?_
  obtain ⟨q, vs, rfl, hq, ps⟩ := p1
  have p2 : l' = l := p2
  have p3 : h' = h := p3
  subst p2
  subst p3
  refine ⟨q, vs, rfl, g3.hh.seq (g2.hh.seq hq), fun r hr => ?_⟩
  exact hw3 _ F3 _ (.newH at3.fh hr) ⟨r, _, rfl, ((g1.hh.trans g2.hh).trans g3.hh).free hr, upd_same, at3.fh.free hr, ps_cut (ps.mono ((g2.ff at1.fh).trans (g3.ff at2.fh))) _ _⟩
end

/-! ### built-ins -/
section
variable [TabC] {X : Cx} {S α β γ A ρ : Type} {xr : XR} {W : WX} {ss : SS X.K S} {pos : Pos} {e1 e2 : Expr} {p : Pos}
omit [TabC] in
theorem ps_ints {K : PySem.W.Frag} {F : Hp} : ∀ {vs : List V} {as : List Int}, Ps (rInt (K := K)) F vs as → vs = as.map V.int
  | _, _, .nil => rfl
  | _, _, .cons h t => by rw [ps_ints t, show _ = _ from h]; rfl
omit [TabC] in
theorem ints_ps {K : PySem.W.Frag} {F : Hp} : ∀ as : List Int, Ps (rInt (K := K)) F (as.map V.int) as
  | [] => .nil
  | _ :: as => .cons rfl (ints_ps as)
omit [TabC] in
theorem ps_bools {K : PySem.W.Frag} {F : Hp} : ∀ {vs : List V} {as : List Bool}, Ps (rBool (K := K)) F vs as → vs = as.map V.bl
  | _, _, .nil => rfl
  | _, _, .cons h t => by rw [ps_bools t, show _ = _ from h]; rfl
theorem ee_len {R : RT X.K α} {es : List Expr} {m : S → Res ((List α) × Unit)} (hm : X.mg "len" = none) (h : AA X xr W ss (e1 :: es) (aC (seq R) aN) m) (hg : Gl X "len" := by rfl) (he : starEach (e1 :: es) X.env = (false, eval e1 X.env) :: starEach es X.env := by rfl) (hpl : (backTo pos (starEach es X.env)).any (·.1) = false := by rfl) : EE X xr W ss (.Call (.Name "len" p) (e1 :: es) [] pos) (pers rInt) (cCall lenR m) :=
  ee_callB call_len_seq hm h (fun H0 F H vs a E Q s0 s h hw => by
    obtain ⟨v, r, rfl, ⟨q, us, e, hq, ps⟩, hr⟩ := h
    have hr : r = [] := hr
    subst hr
    exact ⟨q, us, by rw [e], .inl hq, by rw [show us.length = a.1.length from Paired.length ps]; exact hw.here s rfl⟩) PySem.boot_len hg (by decide) (by decide) he hpl
theorem ee_int_ {es : List Expr} {m : S → Res (Int × Unit)} (hm : X.mg "int" = none) (h : AA X xr W ss (e1 :: es) (aC (pers rInt) aN) m) (hg : Gl X "int" := by rfl) (he : starEach (e1 :: es) X.env = (false, eval e1 X.env) :: starEach es X.env := by rfl) (hpl : (backTo pos (starEach es X.env)).any (·.1) = false := by rfl) : EE X xr W ss (.Call (.Name "int" p) (e1 :: es) [] pos) (pers rInt) (cCall idR m) :=
  ee_callTy call_int1 hm h (fun H0 F H vs a E Q s0 s h hw => by
    obtain ⟨v, r, rfl, h, hr⟩ := h
    have hr : r = [] := hr
    subst hr
    exact .inl ⟨a.1, by rw [show v = _ from h], hw.here s rfl⟩) (by decide +kernel) hg (by decide) (by decide) he hpl
theorem ee_abs {es : List Expr} {m : S → Res (Int × Unit)} (hm : X.mg "abs" = none) (h : AA X xr W ss (e1 :: es) (aC (pers rInt) aN) m) (hg : Gl X "abs" := by rfl) (he : starEach (e1 :: es) X.env = (false, eval e1 X.env) :: starEach es X.env := by rfl) (hpl : (backTo pos (starEach es X.env)).any (·.1) = false := by rfl) : EE X xr W ss (.Call (.Name "abs" p) (e1 :: es) [] pos) (pers rInt) (cCall absR m) :=
  ee_callB call_abs hm h (fun H0 F H vs a E Q s0 s h hw => by
    obtain ⟨v, r, rfl, h, hr⟩ := h
    have hr : r = [] := hr
    subst hr
    exact ⟨a.1, by rw [show v = _ from h], hw.here s rfl⟩) (by decide +kernel) hg (by decide) (by decide) he hpl
theorem ee_max2 {es : List Expr} {m : S → Res (Int × Int × Unit)} (hm : X.mg "max" = none) (h : AA X xr W ss (e1 :: es) (aC (pers rInt) (aC (pers rInt) aN)) m) (hc : X.calm = true := by rfl) (hg : Gl X "max" := by rfl) (he : starEach (e1 :: es) X.env = (false, eval e1 X.env) :: starEach es X.env := by rfl) (hpl : (backTo pos (starEach es X.env)).any (·.1) = false := by rfl) : EE X xr W ss (.Call (.Name "max" p) (e1 :: es) [] pos) (pers rInt) (cCall max2R m) :=
  ee_callB (call_max2 hc) hm h (fun H0 F H vs a E Q s0 s h hw => by
    obtain ⟨v, r, rfl, h, v', r', rfl, h', hr⟩ := h
    have hr : r' = [] := hr
    subst hr
    exact ⟨a.1, a.2.1, by rw [show v = _ from h, show v' = _ from h'], hw.here s rfl⟩) (by decide +kernel) hg (by decide) (by decide) he hpl
theorem ee_min2 {es : List Expr} {m : S → Res (Int × Int × Unit)} (hm : X.mg "min" = none) (h : AA X xr W ss (e1 :: es) (aC (pers rInt) (aC (pers rInt) aN)) m) (hc : X.calm = true := by rfl) (hg : Gl X "min" := by rfl) (he : starEach (e1 :: es) X.env = (false, eval e1 X.env) :: starEach es X.env := by rfl) (hpl : (backTo pos (starEach es X.env)).any (·.1) = false := by rfl) : EE X xr W ss (.Call (.Name "min" p) (e1 :: es) [] pos) (pers rInt) (cCall min2R m) :=
  ee_callB (call_min2 hc) hm h (fun H0 F H vs a E Q s0 s h hw => by
    obtain ⟨v, r, rfl, h, v', r', rfl, h', hr⟩ := h
    have hr : r' = [] := hr
    subst hr
    exact ⟨a.1, a.2.1, by rw [show v = _ from h, show v' = _ from h'], hw.here s rfl⟩) (by decide +kernel) hg (by decide) (by decide) he hpl
theorem ee_list {R : RT X.K α} {es : List Expr} {m : S → Res ((List α) × Unit)} (hm : X.mg "list" = none) (h : AA X xr W ss (e1 :: es) (aC (seq R) aN) m) (hg : Gl X "list" := by rfl) (he : starEach (e1 :: es) X.env = (false, eval e1 X.env) :: starEach es X.env := by rfl) (hpl : (backTo pos (starEach es X.env)).any (·.1) = false := by rfl) : EE X xr W ss (.Call (.Name "list" p) (e1 :: es) [] pos) (fre R) (cCall idR m) :=
  ee_callTy call_list_of hm h (fun H0 F H vs a E Q s0 s h hw => by
    obtain ⟨v, r, rfl, ⟨q, us, e, hq, ps⟩, hr⟩ := h
    have hr : r = [] := hr
    subst hr
    refine ⟨q, us, by rw [e], .inl hq, fun z hz => hw _ F _ (.newH s hz) ⟨z, us, rfl, s0.free hz, upd_same, s.free hz, ps⟩⟩) (by decide +kernel) hg (by decide) (by decide) he hpl
theorem ee_sum {es : List Expr} {m : S → Res ((List Int) × Unit)} (hm : X.mg "sum" = none) (h : AA X xr W ss (e1 :: es) (aC (seq rInt) aN) m) (hc : X.calm = true := by rfl) (hg : Gl X "sum" := by rfl) (he : starEach (e1 :: es) X.env = (false, eval e1 X.env) :: starEach es X.env := by rfl) (hpl : (backTo pos (starEach es X.env)).any (·.1) = false := by rfl) : EE X xr W ss (.Call (.Name "sum" p) (e1 :: es) [] pos) (pers rInt) (cCall sumR m) :=
  ee_callB (cr_sum hc) hm h (fun H0 F H vs a E Q s0 s h hw => by
    obtain ⟨v, r, rfl, ⟨q, us, e, hq, ps⟩, hr⟩ := h
    have hr : r = [] := hr
    subst hr
    exact ⟨q, a.1, by rw [e], by rw [← ps_ints ps]; exact hq, hw.here s rfl⟩) (by decide +kernel) hg (by decide) (by decide) he hpl
theorem ee_all {es : List Expr} {m : S → Res ((List Bool) × Unit)} (hm : X.mg "all" = none) (h : AA X xr W ss (e1 :: es) (aC (seq rBool) aN) m) (hc : X.calm = true := by rfl) (hg : Gl X "all" := by rfl) (he : starEach (e1 :: es) X.env = (false, eval e1 X.env) :: starEach es X.env := by rfl) (hpl : (backTo pos (starEach es X.env)).any (·.1) = false := by rfl) : EE X xr W ss (.Call (.Name "all" p) (e1 :: es) [] pos) (pers rBool) (cCall allR m) :=
  ee_callB (cr_all hc) hm h (fun H0 F H vs a E Q s0 s h hw => by
    obtain ⟨v, r, rfl, ⟨q, us, e, hq, ps⟩, hr⟩ := h
    have hr : r = [] := hr
    subst hr
    exact ⟨q, a.1, by rw [e], by rw [← ps_bools ps]; exact hq, hw.here s rfl⟩) (by decide +kernel) hg (by decide) (by decide) he hpl
theorem ee_any {es : List Expr} {m : S → Res ((List Bool) × Unit)} (hm : X.mg "any" = none) (h : AA X xr W ss (e1 :: es) (aC (seq rBool) aN) m) (hc : X.calm = true := by rfl) (hg : Gl X "any" := by rfl) (he : starEach (e1 :: es) X.env = (false, eval e1 X.env) :: starEach es X.env := by rfl) (hpl : (backTo pos (starEach es X.env)).any (·.1) = false := by rfl) : EE X xr W ss (.Call (.Name "any" p) (e1 :: es) [] pos) (pers rBool) (cCall anyR m) :=
  ee_callB (cr_any hc) hm h (fun H0 F H vs a E Q s0 s h hw => by
    obtain ⟨v, r, rfl, ⟨q, us, e, hq, ps⟩, hr⟩ := h
    have hr : r = [] := hr
    subst hr
    exact ⟨q, a.1, by rw [e], by rw [← ps_bools ps]; exact hq, hw.here s rfl⟩) (by decide +kernel) hg (by decide) (by decide) he hpl
end
end Y


set_option Elab.async false
set_option linter.all false
set_option autoImplicit false
set_option maxRecDepth 100000
set_option maxHeartbeats 2000000
/-! Y6: ranges, enumerate, sorted; freezing; options; returns of one's own list. -/
namespace Y
open PySem PySem.Spec PyProof.Rows L2

/-! ### freezing -/
structure Fz [TabC] {K : PySem.W.Frag} {S : Type} (ss ss' : SS K S) : Prop where
  fz : ∀ {B : Hp} {acc : List Addr} {F0 F H : Hp} {σ : St} {s : S}, ss.rel B acc F H σ s → Grow F0 B F H → ∃ F', Same F F' ∧ Grow F0 B F' H ∧ ss'.rel B acc F' H σ s ∧ ∀ q ∈ acc, F' q = F q
section
variable [TabC] {K : PySem.W.Frag} {S α : Type} {ss ss' : SS K S} {R : RT K α}
theorem Fz.z : Fz (sO R ss) (sI (rList R) ss) := ⟨fun {B acc F0 F H σ s} h g => by
  obtain ⟨x, σ', rfl, h⟩ := h
  cases q : s.1 with
  | none =>
    rw [q] at h
    exact ⟨F, .refl F, g, ⟨x, σ', rfl, fun a z => (by rw [q] at z; cases z), h⟩, fun _ _ => rfl⟩
  | some as =>
    rw [q] at h
    obtain ⟨p, vs, ex, hb, ha, hh, hf, ps, t⟩ := h
    refine ⟨upd F p (.lst vs), same_new hf, g.freeze hb hh, ⟨x, σ', rfl, fun a z => ?_, ss.more (ss.frz t List.mem_cons_self hf) fun r hr => .inl (List.mem_cons_of_mem _ hr)⟩, fun r hr => upd_ne fun z => ha (by rw [← z]; exact hr)⟩
    rw [q] at z
    cases z
    exact ⟨_, ex, p, vs, rfl, upd_same, ps.mono (same_new hf)⟩⟩
theorem Fz.s {β : Type} {R' : RT K β} (h : Fz ss ss') : Fz (sI R' ss) (sI R' ss') := ⟨fun {B acc F0 F H σ s} r g => by
  obtain ⟨x, σ', rfl, r, t⟩ := r
  obtain ⟨F', s1, g', t', k⟩ := h.fz t g
  exact ⟨F', s1, g', ⟨x, σ', rfl, fun a q => let ⟨v, ev, hv⟩ := r a q; ⟨v, ev, R'.mono s1 hv⟩, t'⟩, k⟩⟩
theorem Fz.o {β : Type} {R' : RT K β} (h : Fz ss ss') : Fz (sO R' ss) (sO R' ss') := ⟨fun {B acc F0 F H σ s} r g => by
  obtain ⟨x, σ', rfl, r⟩ := r
  cases q : s.1 with
  | none =>
    rw [q] at r
    obtain ⟨F', s1, g', t', k⟩ := h.fz r g
    refine ⟨F', s1, g', ⟨x, σ', rfl, ?_⟩, k⟩
    rw [q]
    exact t'
  | some as =>
    rw [q] at r
    obtain ⟨p, vs, ex, hb, ha, hh, hf, ps, t⟩ := r
    obtain ⟨F', s1, g', t', k⟩ := h.fz t g
    refine ⟨F', s1, g', ⟨x, σ', rfl, ?_⟩, fun r hr => k r (List.mem_cons_of_mem _ hr)⟩
    rw [q]
    exact ⟨p, vs, ex, hb, ha, hh, (k p List.mem_cons_self).trans hf, ps.mono s1, t'⟩⟩
end
section
variable [TabC] {X : Cx} {S S' α β γ A ρ : Type} {xr : XR} {W : WX} {ss ss2 : SS X.K S} {ss' : SS X.K S'} {pos : Pos} {P : RK X.K V ρ} {e1 e2 : Expr} {p : Pos}
theorem sj_fz {st : List Stmt} {m : S → Out S' ρ} (h : Fz ss ss2) (k : SJ X xr W ss2 st ss' P m) : SJ X xr W ss st ss' P m := by
  obtain ⟨t, p, d⟩ := k.ex
  refine ⟨t, p, fun F0 B F H σ s D a hw => ?_⟩
  obtain ⟨F', s1, g, r, _⟩ := h.fz a.r a.g
  exact d F0 B F' H σ s D ⟨g, a.t, r⟩ (hw.shift s1)
/-- return of a list of one's own -/
theorem s1_retO {i : Nat} {x : Str} {R : RT X.K α} {g : S → Option (List α)} {w : List α → S → S} {px : Pos} (l : LO ss i R g w) (hN : X.N[i]? = some x := by rfl) (hv : Vis X.env.scope x := by first | exact Or.inl rfl | exact Or.inr (Or.inl rfl) | exact Or.inr (Or.inr rfl))
    (hd : (x == ("__debug__" : Str)) = false := by decide) (hcd : (x == ("__classdict__" : Str)) = false := by decide) : S1J X xr W ss (.Return (some (.Name x px)) pos) ss' (fre R) (oRet (cV g)) := by
  refine ⟨_, ps_ret (pe_var hN hv hd hcd), fun F0 B F H σ s D a hw => ?_⟩
  obtain ⟨as, eg, hw⟩ := WantS.opt hw
  obtain ⟨q, vs, e1, e2, e3, e4, e5, e6, e7⟩ := l.get a.r eg
  exact ⟨_, e1, hw _ F H a.g ⟨q, vs, rfl, e2, e4, e5, e6⟩⟩

/-! ### options -/
/-- a value that is never None -/
structure NN {K : PySem.W.Frag} (R : RT K α) : Prop where
  nn : ∀ {H : Hp} {v : V} {a : α}, R.r H v a → v ≠ .non
omit [TabC] in
theorem nn_int {K : PySem.W.Frag} : NN (rInt (K := K)) := ⟨fun h z => by rw [show _ = _ from h] at z; cases z⟩
omit [TabC] in
theorem nn_bool {K : PySem.W.Frag} : NN (rBool (K := K)) := ⟨fun h z => by rw [show _ = _ from h] at z; cases z⟩
omit [TabC] in
theorem nn_str {K : PySem.W.Frag} : NN (rStr (K := K)) := ⟨fun h z => by rw [h.1] at z; cases z⟩
omit [TabC] in
theorem nn_list {K : PySem.W.Frag} {R : RT K α} : NN (rList R) := ⟨fun h z => by
  obtain ⟨p, vs, e, _⟩ := h
  rw [e] at z
  cases z⟩
omit [TabC] in
theorem nn_tup {K : PySem.W.Frag} {T : TR K α} : NN (rTup T) := ⟨fun h z => by
  obtain ⟨p, vs, e, _⟩ := h
  rw [e] at z
  cases z⟩
def wrapR (a : α) : Res (Option α) := .ok (some a)
theorem EE.wrap {e : Expr} {R : RT X.K α} {m : S → Res α} (hn : NN R) (h : EE X xr W ss e (pers R) m) : EE X xr W ss e (pers (rOpt R)) (u1 wrapR m) := by
  obtain ⟨t, p, d⟩ := h.ex
  refine ⟨t, p, fun F0 B F H σ s Q a hw => ?_⟩
  exact d.go a hw fun a v F1 H1 _ at1 g1 p1 hw1 => hw1.here at1.fh ⟨hn.nn p1, p1⟩
theorem EE.unwrap {e : Expr} {R : RT X.K α} {m : S → Res (Option α)} (h : EE X xr W ss e (pers (rOpt R)) m) : EE X xr W ss e (pers R) (u1 ofOpt m) := by
  obtain ⟨t, p, d⟩ := h.ex
  refine ⟨t, p, fun F0 B F H σ s Q a hw => ?_⟩
  refine d.go a hw fun o v F1 H1 _ at1 g1 p1 hw1 => ?_
  obtain ⟨x, e, hw1⟩ := hw1.opt
  subst e
  exact hw1.here at1.fh p1.2

/-! ### ranges -/
theorem walks_rng {K : PySem.W.Frag} {lo : Int} {n : Nat} {F : Hp} {N : Hp → Prop} : Walks (rInt (K := K)) (Itr lo n) (rng lo n) F N := fun i F' H' s1 s2 _ => by
  have hl : (rng lo n).length = n := by unfold rng; rw [List.length_map, List.length_range]
  refine ⟨fun a ha => ?_, fun hi => by rw [hl] at hi; exact hi⟩
  obtain ⟨h1, e⟩ := List.getElem?_eq_some_iff.mp ha
  have h2 : i < n := by rw [hl] at h1; exact h1
  have e2 : a = lo + (i : Int) := by
    have q : ((List.range n).map fun (i : Nat) => lo + (i : Int))[i]? = some a := ha
    rw [List.getElem?_map, List.getElem?_range h2] at q
    exact (Option.some.inj q).symm
  refine ⟨h2, fun x H2 y => ?_⟩
  obtain ⟨rfl, y⟩ := y
  exact ⟨F', .refl s2, by rw [e2]; exact y⟩
theorem ij_rng1 {tg a : Expr} {m : S → Res (Int × Unit)} (hm : X.mg "range" = none) (h : AA X xr W ss [a] (aC (pers rInt) aN) m) (hg : Gl X "range" := by rfl) (hs : starEach [a] X.env = [(false, eval a X.env)] := by rfl) : IJ X xr W ss tg (.Call (.Name "range" p) [a] [] pos) (kIt rInt) (cCall rng1 m) := by
  obtain ⟨t, pa, d⟩ := h.ex
  refine ⟨_, pi_range1 hg hm pa hs, fun F0 B F H σ s Q a hw => ?_⟩
  refine d.go a hw fun a vs F1 H1 _ at1 g1 p1 hw1 => ?_
  obtain ⟨v, r, rfl, h1, h2⟩ := p1
  have h2 : r = [] := h2
  subst h2
  obtain ⟨hc, hw1⟩ := hw1.grd
  have hc : -(2 ^ 62) ≤ a.1 ∧ a.1 < 2 ^ 62 := of_decide_eq_true hc
  exact ⟨a.1, by rw [show v = _ from h1], hc.1, hc.2, hw1.here at1.fh walks_rng⟩
theorem ij_rng2 {tg a b : Expr} {m : S → Res (Int × Int × Unit)} (hm : X.mg "range" = none) (h : AA X xr W ss [a, b] (aC (pers rInt) (aC (pers rInt) aN)) m) (hg : Gl X "range" := by rfl) (hs : starEach [a, b] X.env = [(false, eval a X.env), (false, eval b X.env)] := by rfl) (hs2 : starEach [b] X.env = [(false, eval b X.env)] := by rfl) :
    IJ X xr W ss tg (.Call (.Name "range" p) [a, b] [] pos) (kIt rInt) (cCall rng2 m) := by
  obtain ⟨t, pa, d⟩ := h.ex
  refine ⟨_, pi_range2 hg hm pa hs hs2, fun F0 B F H σ s Q a hw => ?_⟩
  refine d.go a hw fun a vs F1 H1 _ at1 g1 p1 hw1 => ?_
  obtain ⟨v, r, rfl, h1, v', r', rfl, h2, h3⟩ := p1
  have h3 : r' = [] := h3
  subst h3
  obtain ⟨hc, hw1⟩ := hw1.grd
  have hc : -(2 ^ 62) ≤ a.1 ∧ a.1 < 2 ^ 62 ∧ -(2 ^ 62) ≤ a.2.1 ∧ a.2.1 < 2 ^ 62 := of_decide_eq_true hc
  exact ⟨a.1, a.2.1, by rw [show v = _ from h1, show v' = _ from h2], hc, hw1.here at1.fh walks_rng⟩

/-! ### enumerate -/
theorem walks_enum {R : RT X.K α} {q : Addr} {vs : List V} {as : List α} {F : Hp} {N : Hp → Prop} (hq : ∀ H', N H' → ∀ F', Same F F' → Same F' H' → SqL X.K H' q vs) (ps : Ps R F vs as) : Walks (rTup (tC rInt (t1 R))) (Ite X.K q) (enumL as) F N := fun i F' H' s1 s2 n => by
  have hs := hq H' n F' s1 s2
  have hl : (enumL as).length = as.length := by unfold enumL; rw [List.length_mapIdx]
  refine ⟨fun a ha => ?_, fun hi => ⟨vs, hs, by rw [show vs.length = as.length from Paired.length ps]; rw [hl] at hi; exact hi⟩⟩
  unfold enumL at ha
  rw [List.getElem?_mapIdx] at ha
  cases eb : as[i]? with
  | none =>
    rw [eb] at ha
    cases ha
  | some b =>
    rw [eb] at ha
    cases ha
    obtain ⟨v, hv, r⟩ := Paired.get2 ps eb
    refine ⟨⟨vs, v, hs, hv⟩, fun x H2 y => ?_⟩
    obtain ⟨T, z, rfl, hT, rfl, y⟩ := y
    have e : v = z := Option.some.inj (hv.symm.trans (y vs hs))
    subst e
    exact ⟨_, .new s2 hT, T, _, rfl, upd_same, _, _, rfl, rfl, v, rfl, R.mono (s1.trans (same_new (s2.free hT))) r⟩
theorem ij_enum {tpos : Pos} {elts : List Expr} {kk : Nat} {R : RT X.K α} {m : S → Res (List α × Unit)} (hm : X.mg "enumerate" = none) (h : AA X xr W ss [e1] (aC (pers (rList R)) aN) m) (hg : Gl X "enumerate" := by rfl) (hs : starEach [e1] X.env = [(false, eval e1 X.env)] := by rfl) :
    IJ X xr W ss (.Tuple elts kk tpos) (.Call (.Name "enumerate" p) [e1] [] pos) (kIt (rTup (tC rInt (t1 R)))) (cCall enumR m) := by
  obtain ⟨t, pa, d⟩ := h.ex
  refine ⟨_, pi_enum hg hm pa hs, fun F0 B F H σ s Q a hw => ?_⟩
  refine d.go a hw fun a vs F1 H1 _ at1 g1 p1 hw1 => ?_
  obtain ⟨v, r, rfl, ⟨q, us, rfl, hq, ps⟩, h2⟩ := p1
  have h2 : r = [] := h2
  subst h2
  exact ⟨q, us, rfl, SqL.of (at1.fh.k hq), hw1.here at1.fh (walks_enum (fun H2 _ F2 s1 s2 => SqL.of (s2.k (s1.k hq))) ps)⟩
theorem ij_enumH {tpos : Pos} {elts : List Expr} {kk : Nat} {R : RT X.K α} {m : S → Res (List α × Unit)} (hm : X.mg "enumerate" = none) (h : AA X xr W ss [e1] (aC (seq R) aN) m) (hg : Gl X "enumerate" := by rfl) (hs : starEach [e1] X.env = [(false, eval e1 X.env)] := by rfl) :
    IJ X xr W ss (.Tuple elts kk tpos) (.Call (.Name "enumerate" p) [e1] [] pos) (kItH (rTup (tC rInt (t1 R)))) (cCall enumR m) := by
  obtain ⟨t, pa, d⟩ := h.ex
  refine ⟨_, pi_enum hg hm pa hs, fun F0 B F H σ s Q a hw => ?_⟩
  refine d.go a hw fun a vs F1 H1 _ at1 g1 p1 hw1 => ?_
  obtain ⟨v, r, rfl, ⟨q, us, rfl, hq, ps⟩, h2⟩ := p1
  have h2 : r = [] := h2
  subst h2
  exact ⟨q, us, rfl, hq, hw1.here at1.fh (walks_enum (fun H2 n F2 s1 s2 => Same.seq n hq) ps)⟩

/-! ### sorted -/
omit [TabC] in
theorem sorted_one : ∀ {as bs : List Int}, as.Perm bs → as.Pairwise (· ≤ ·) → bs.Pairwise (· ≤ ·) → as = bs
  | [], bs, p, _, _ => (List.Perm.nil_eq p)
  | a :: as, bs, p, h1, h2 => by
    cases bs with
    | nil => exact absurd p.length_eq (by simp)
    | cons b bs =>
      have ha : a ∈ b :: bs := p.subset List.mem_cons_self
      have hb : b ∈ a :: as := p.symm.subset List.mem_cons_self
      have h3 : b ≤ a := by
        rcases List.mem_cons.mp ha with z | z
        · omega
        · exact (List.pairwise_cons.mp h2).1 a z
      have h4 : a ≤ b := by
        rcases List.mem_cons.mp hb with z | z
        · omega
        · exact (List.pairwise_cons.mp h1).1 b z
      have e : a = b := by omega
      subst e
      rw [sorted_one p.cons_inv (List.pairwise_cons.mp h1).2 (List.pairwise_cons.mp h2).2]
omit [TabC] in
theorem isort_perm (as : List Int) : (isort as).Perm as := List.mergeSort_perm as _
omit [TabC] in
theorem isort_sorted (as : List Int) : (isort as).Pairwise (· ≤ ·) := by
  have h := List.pairwise_mergeSort (le := fun a b : Int => decide (a ≤ b)) (fun a b c h1 h2 => by simp only [decide_eq_true_eq] at *; omega) (fun a b => by simp only [Bool.or_eq_true, decide_eq_true_eq]; omega) as
  exact h.imp fun h => of_decide_eq_true h
theorem ee_sorted {es : List Expr} {m : S → Res (List Int × Unit)} (hm : X.mg "sorted" = none) (h : AA X xr W ss (e1 :: es) (aC (seq rInt) aN) m) (hg : Gl X "sorted" := by rfl) (he : starEach (e1 :: es) X.env = (false, eval e1 X.env) :: starEach es X.env := by rfl) (hpl : (backTo pos (starEach es X.env)).any (·.1) = false := by rfl) :
    EE X xr W ss (.Call (.Name "sorted" p) (e1 :: es) [] pos) (fre rInt) (cCall sortR m) :=
  ee_callB cr_sortedI hm h (fun H0 F H vs a E Q s0 s h hw => by
    obtain ⟨v, r, rfl, ⟨q, us, e, hq, ps⟩, hr⟩ := h
    have hr : r = [] := hr
    subst hr
    refine ⟨q, a.1, by rw [e], by rw [← ps_ints ps]; exact hq, fun ns z k1 k2 hz => ?_⟩
    rw [sorted_one (k1.trans (isort_perm a.1).symm) k2 (isort_sorted a.1)]
    exact hw _ F _ (.newH s hz) ⟨z, _, rfl, s0.free hz, upd_same, s.free hz, ints_ps _⟩) (by decide +kernel) hg (by decide) (by decide) he hpl

/-! ### isinstance -/
structure Tg {K : PySem.W.Frag} (R : RT K α) (t : String) : Prop where
  tg : ∀ {H : Hp} {v : V} {a : α}, R.r H v a → TyX K H v (.type t)
omit [TabC] in
theorem tgt_int {K : PySem.W.Frag} : Tg (rInt (K := K)) "int" := ⟨fun h => by rw [show _ = _ from h]; exact .base (.int _)⟩
omit [TabC] in
theorem tgt_bool {K : PySem.W.Frag} : Tg (rBool (K := K)) "bool" := ⟨fun h => by rw [show _ = _ from h]; exact .base (.bl _)⟩
omit [TabC] in
theorem tgt_str {K : PySem.W.Frag} : Tg (rStr (K := K)) "str" := ⟨fun h => by rw [h.1]; exact .base (.str _)⟩
omit [TabC] in
theorem tgt_unit {K : PySem.W.Frag} : Tg (rUnit (K := K)) "NoneType" := ⟨fun h => by rw [show _ = _ from h]; exact .base .non⟩
omit [TabC] in
theorem tgt_list {K : PySem.W.Frag} {R : RT K α} : Tg (rList R) "list" := ⟨fun h => by
  obtain ⟨p, vs, e, h, _⟩ := h
  rw [e]
  exact .base (.lst h)⟩
omit [TabC] in
theorem tgt_tup {K : PySem.W.Frag} {T : TR K α} : Tg (rTup T) "tuple" := ⟨fun h => by
  obtain ⟨p, vs, e, h, _⟩ := h
  rw [e]
  exact .base (.tup h)⟩
def rTy {K : PySem.W.Frag} (n : String) : RT K Unit := ⟨fun _ v _ => v = .ty n, fun _ h => h⟩
theorem ee_ty {n : String} {x : Str} (hm : X.mg x = none) (hg : Gl X x := by rfl) (hv : bootBuiltins x = some (.type n) := by decide +kernel) (hn : x ≠ "__name__" := by decide) (hd : (x == ("__debug__" : Str)) = false := by decide) : EE X xr W ss (.Name x pos) (pers (rTy n)) (cK ()) :=
  ee_const (pe_bltn (v := .ty n) hg hm hv rfl hn hd) fun _ => rfl
def isiR (b : Bool) (_ : α × Unit × Unit) : Res Bool := .ok b
theorem ee_isi {es : List Expr} {R : RT X.K α} {t c : String} {b : Bool} {m : S → Res (α × Unit × Unit)} (tg : Tg R t) (hk : kitB t c = some b) (hm : X.mg "isinstance" = none) (h : AA X xr W ss (e1 :: es) (aC (trn R) (aC (pers (rTy c)) aN)) m) (hg : Gl X "isinstance" := by rfl)
    (he : starEach (e1 :: es) X.env = (false, eval e1 X.env) :: starEach es X.env := by rfl) (hpl : (backTo pos (starEach es X.env)).any (·.1) = false := by rfl) : EE X xr W ss (.Call (.Name "isinstance" p) (e1 :: es) [] pos) (pers rBool) (cCall (isiR b) m) :=
  ee_callB call_isi hm h (fun H0 F H vs a E Q s0 s h hw => by
    obtain ⟨v, r, rfl, h, v', r', rfl, h', hr⟩ := h
    have hr : r' = [] := hr
    subst hr
    have h' : v' = .ty c := h'
    subst h'
    exact ⟨v, .ty c, _, _, b, rfl, .ty c, tg.tg h, kit_ty hk, hw.here s rfl⟩) (by decide +kernel) hg (by decide) (by decide) he hpl
/-! ### small things for the printer -/
theorem s1_augadd {i : Nat} {x : Str} {e : Expr} {g : S → Option Int} {w : Int → S → S} {m : S → Res Int} {pos' : Pos} (l : LI ss i rInt g w) (he : EE X xr W ss e (pers rInt) m) (hN : X.N.Nodup) (hi : X.N[i]? = some x := by rfl) (hx : Loc X.env.scope x := by first | exact Or.inl rfl | exact Or.inr rfl)
    (hf : X.fn x = true ∨ X.env.scope.names.lookup x = some .local := by first | exact Or.inl rfl | exact Or.inr rfl) : S1J X xr W ss (.AugAssign (.Name x pos') .Add e pos) ss P (oAug addR g w m) :=
  s1_aug l ip_add he (fun _ _ _ _ _ a b _ _ _ s h1 h2 hw => ⟨a, b, h1, h2, hw.here s rfl⟩) hN hi hx hf
theorem s1_augsub {i : Nat} {x : Str} {e : Expr} {g : S → Option Int} {w : Int → S → S} {m : S → Res Int} {pos' : Pos} (l : LI ss i rInt g w) (he : EE X xr W ss e (pers rInt) m) (hN : X.N.Nodup) (hi : X.N[i]? = some x := by rfl) (hx : Loc X.env.scope x := by first | exact Or.inl rfl | exact Or.inr rfl)
    (hf : X.fn x = true ∨ X.env.scope.names.lookup x = some .local := by first | exact Or.inl rfl | exact Or.inr rfl) : S1J X xr W ss (.AugAssign (.Name x pos') .Sub e pos) ss P (oAug subR g w m) :=
  s1_aug l ip_sub he (fun _ _ _ _ _ a b _ _ _ s h1 h2 hw => ⟨a, b, h1, h2, hw.here s rfl⟩) hN hi hx hf
end
theorem blk_dec {N : List Str} {sc scope : Scope} {own : List (Str × Nat)} (h : blkC N sc scope own = true) : blkC N sc scope own = true := h
theorem law_sp [TabC] {K : PySem.W.Frag} {xr : XR} {m : List Int × Unit → Res Bool} (hlaw : ∀ ns : List Int, ns.length ≤ 63 → m (ns, ()) = .ok true) {H : Hp} {a : Addr} {ns : List Int} (hl : ns.length ≤ 63) (hT : Tb H) (hS : SqL K H a (ns.map V.int)) :
    sp (K := K) (aC (pers (rSeq rInt)) aN) (pers rBool) xr m [.ref a] H (fun v _ => v = .bl true) fun _ _ _ => False := by
  refine ⟨H, (ns, ()), .refl H, hT, ⟨_, _, rfl, ⟨a, _, rfl, hS, ints_ps ns⟩, rfl⟩, ?_⟩
  rw [hlaw ns hl]
  exact fun v F' H' g p => p
end Y


set_option Elab.async false
set_option linter.all false
set_option autoImplicit false
set_option maxRecDepth 100000
set_option maxHeartbeats 2000000
/-! Y7: reckoning with mirrors. -/
namespace Y
open PySem L2

section
variable {S S' S1 α β γ A ρ : Type}
@[simp] theorem bind_ok (a : α) (k : α → Res β) : (Res.ok a).bind k = k a := (rfl)
@[simp] theorem bind_er (e : Exn) (k : α → Res β) : (Res.er e).bind k = .er e := (rfl)
@[simp] theorem bind_no (k : α → Res β) : (Res.no : Res α).bind k = .no := (rfl)
@[simp] theorem out_ok (a : α) (k : α → Out S ρ) : (Res.ok a).out k = k a := (rfl)
@[simp] theorem out_er (e : Exn) (k : α → Out S ρ) : (Res.er e).out k = .er e := (rfl)
@[simp] theorem out_no (k : α → Out S ρ) : (Res.no : Res α).out k = .no := (rfl)
@[simp] theorem seq_nx (s : S) (k : S → Out S' ρ) : (Out.nx s).seq k = k s := (rfl)
@[simp] theorem seq_rt (r : ρ) (k : S → Out S' ρ) : (Out.rt r : Out S ρ).seq k = .rt r := (rfl)
@[simp] theorem seq_er (e : Exn) (k : S → Out S' ρ) : (Out.er e : Out S ρ).seq k = .er e := (rfl)
@[simp] theorem seq_no (k : S → Out S' ρ) : (Out.no : Out S ρ).seq k = .no := (rfl)
@[simp] theorem seq_seq {S2 : Type} (m : Out S ρ) (k : S → Out S' ρ) (l : S' → Out S2 ρ) : (m.seq k).seq l = m.seq fun s => (k s).seq l := by cases m <;> rfl
@[simp] theorem out_seq (m : Res α) (k : α → Out S ρ) (l : S → Out S' ρ) : (m.out k).seq l = m.out fun a => (k a).seq l := by cases m <;> rfl
@[simp] theorem bind_out (m : Res α) (k : α → Res β) (l : β → Out S ρ) : (m.bind k).out l = m.out fun a => (k a).out l := by cases m <;> rfl
@[simp] theorem bind_assoc (m : Res α) (k : α → Res β) (l : β → Res γ) : (m.bind k).bind l = m.bind fun a => (k a).bind l := by cases m <;> rfl
@[simp] theorem ite_seq (c : Prop) [Decidable c] (a b : Out S ρ) (k : S → Out S' ρ) : (if c then a else b).seq k = if c then a.seq k else b.seq k := by split <;> rfl
theorem ite_fin (c : Prop) [Decidable c] (a b : Out S ρ) : (if c then a else b).fin = if c then a.fin else b.fin := by split <;> rfl
@[simp] theorem ite_ok (c : Prop) [Decidable c] (a b : α) : (if c then Res.ok a else Res.ok b) = Res.ok (if c then a else b) := by split <;> rfl
@[simp] theorem ite_bind (c : Prop) [Decidable c] (a b : Res α) (k : α → Res β) : (if c then a else b).bind k = if c then a.bind k else b.bind k := by split <;> rfl
@[simp] theorem ite_out (c : Prop) [Decidable c] (a b : Res α) (k : α → Out S ρ) : (if c then a else b).out k = if c then a.out k else b.out k := by split <;> rfl
@[simp] theorem fin_rt (r : ρ) : (Out.rt r : Out S ρ).fin = .ok r := (rfl)
@[simp] theorem fin_nx (s : S) : (Out.nx s : Out S ρ).fin = .no := (rfl)
@[simp] theorem fin_er (e : Exn) : (Out.er e : Out S ρ).fin = .er e := (rfl)
@[simp] theorem fin_no : (Out.no : Out S ρ).fin = .no := (rfl)
@[simp] theorem finN_rt (r : Unit) : (Out.rt r : Out S Unit).finN = .ok () := (rfl)
@[simp] theorem finN_nx (s : S) : (Out.nx s : Out S Unit).finN = .ok () := (rfl)
@[simp] theorem finN_er (e : Exn) : (Out.er e : Out S Unit).finN = .er e := (rfl)
@[simp] theorem calm_ok (a : α) : (Res.ok a).calm = .ok a := (rfl)
@[simp] theorem ofOpt_some (a : α) : ofOpt (some a) = .ok a := (rfl)
@[simp] theorem ofOpt_none : (ofOpt none : Res α) = .no := (rfl)
@[simp] theorem guard_true (a : α) : guardR true a = .ok a := (rfl)
@[simp] theorem guard_false (a : α) : guardR false a = (.no : Res α) := (rfl)
@[simp] theorem cV_ap (g : S → Option α) (s : S) : cV g s = ofOpt (g s) := (rfl)
@[simp] theorem cK_ap (a : α) (s : S) : cK a s = .ok a := (rfl)
@[simp] theorem b2_ap (f : α → β → Res γ) (ma : S → Res α) (mb : S → Res β) (s : S) : b2 f ma mb s = (ma s).bind fun a => (mb s).bind fun b => f a b := (rfl)
@[simp] theorem u1_ap (f : α → Res β) (m : S → Res α) (s : S) : u1 f m s = (m s).bind f := (rfl)
@[simp] theorem notR_ap (m : S → Res Bool) (s : S) : notR m s = (m s).bind fun b => .ok (!b) := (rfl)
@[simp] theorem andR_ap (m m' : S → Res Bool) (s : S) : andR m m' s = (m s).bind fun b => if b = true then m' s else .ok false := (rfl)
@[simp] theorem orR_ap (m m' : S → Res Bool) (s : S) : orR m m' s = (m s).bind fun b => if b = true then .ok true else m' s := (rfl)
@[simp] theorem ifR_ap (c : S → Res Bool) (ma mb : S → Res α) (s : S) : ifR c ma mb s = (c s).bind fun k => if k = true then ma s else mb s := (rfl)
@[simp] theorem aNil_ap (s : S) : aNil s = .ok () := (rfl)
@[simp] theorem aCons_ap (m : S → Res α) (m' : S → Res A) (s : S) : aCons m m' s = (m s).bind fun a => (m' s).bind fun r => .ok (a, r) := (rfl)
@[simp] theorem lNil_ap (s : S) : (lNil s : Res (List α)) = .ok [] := (rfl)
@[simp] theorem lCons_ap (m : S → Res α) (m' : S → Res (List α)) (s : S) : lCons m m' s = (m s).bind fun a => (m' s).bind fun r => .ok (a :: r) := (rfl)
@[simp] theorem tOne_ap (m : S → Res α) (s : S) : tOne m s = (m s).bind fun a => .ok a := (rfl)
@[simp] theorem oNx_ap (s : S) : (oNx s : Out S ρ) = .nx s := (rfl)
@[simp] theorem oSet_ap (w : α → S → S') (m : S → Res α) (s : S) : (oSet w m s : Out S' ρ) = (m s).out fun a => .nx (w a s) := (rfl)
@[simp] theorem oRet_ap (m : S → Res ρ) (s : S) : (oRet m s : Out S' ρ) = (m s).out .rt := (rfl)
@[simp] theorem oExp_ap (m : S → Res α) (s : S) : (oExp m s : Out S ρ) = (m s).out fun _ => .nx s := (rfl)
@[simp] theorem oIf_ap (c : S → Res Bool) (ma mb : S → Out S' ρ) (s : S) : oIf c ma mb s = (c s).out fun k => if k = true then ma s else mb s := (rfl)
@[simp] theorem oSeq_ap (m : S → Out S1 ρ) (k : S1 → Out S' ρ) (s : S) : oSeq m k s = (m s).seq k := (rfl)
@[simp] theorem oFor_ap (mi : S → Res (List α)) (w : α → S → S) (mb : S → Out S ρ) (s : S) : oFor mi w mb s = (mi s).out fun as => forM (fun a s => mb (w a s)) as s := (rfl)
@[simp] theorem oApp_ap (g : S → Option (List α)) (w : List α → S → S) (m : S → Res α) (s : S) : (oApp g w m s : Out S ρ) = (ofOpt (g s)).out fun as => (m s).out fun a => (appR as a).out fun as' => .nx (w as' s) := (rfl)
@[simp] theorem oAug_ap (f : α → β → Res γ) (g : S → Option α) (w : γ → S → S) (m : S → Res β) (s : S) : (oAug f g w m s : Out S ρ) = ((ofOpt (g s)).bind fun a => (m s).bind fun b => f a b).out fun c => .nx (w c s) := (rfl)
@[simp] theorem cComp_ap (mi : S → Res (List α)) (w : α → S → S) (mc : S → Res Bool) (me : S → Res β) (s : S) : cComp mi w mc me s = (mi s).bind fun as => (guardR (decide (as.length ≤ 16777216)) as).bind fun as => compM (fun a => mc (w a s)) (fun a => me (w a s)) as := (rfl)
@[simp] theorem cCall_ap (f : A → Res ρ) (m : S → Res A) (s : S) : cCall f m s = (m s).bind f := (rfl)
@[simp] theorem cSome_ap (m : S → Res Int) (s : S) : cSome m s = (m s).bind fun a => .ok (some a) := (rfl)
@[simp] theorem cCut_ap (m : S → Res (List α)) (lo hi : S → Res (Option Int)) (s : S) : cCut m lo hi s = (m s).bind fun as => (lo s).bind fun l => (hi s).bind fun h => .ok (cut as l h) := (rfl)
@[simp] theorem gz_ap (a : Option α) (s : S) : gz (a, s) = a := (rfl)
@[simp] theorem gs_ap (g : S → Option α) (b : Option β) (s : S) : gs g (b, s) = g s := (rfl)
@[simp] theorem wz_ap (a : α) (b : Option α) (s : S) : wz a (b, s) = (some a, s) := (rfl)
@[simp] theorem ws_ap (w : α → S → S) (a : α) (b : Option β) (s : S) : ws w a (b, s) = (b, w a s) := (rfl)
@[simp] theorem wPair_ap (w : α → S → S) (w' : β → S → S) (a : α) (b : β) (s : S) : wPair w w' (a, b) s = w' b (w a s) := (rfl)
@[simp] theorem forM_nil (f : α → S → Out S ρ) (s : S) : forM f [] s = .nx s := (rfl)
@[simp] theorem forM_cons (f : α → S → Out S ρ) (a : α) (as : List α) (s : S) : forM f (a :: as) s = (f a s).seq (forM f as) := (rfl)
@[simp] theorem compM_nil (c : α → Res Bool) (f : α → Res β) : compM c f [] = .ok [] := (rfl)
@[simp] theorem addR_ap (a b : Int) : addR a b = .ok (a + b) := (rfl)
@[simp] theorem subR_ap (a b : Int) : subR a b = .ok (a - b) := (rfl)
@[simp] theorem negR_ap (a : Int) : negR a = .ok (-a) := (rfl)
@[simp] theorem ltR_ap (a b : Int) : ltR a b = .ok (decide (a < b)) := (rfl)
@[simp] theorem leR_ap (a b : Int) : leR a b = .ok (decide (a ≤ b)) := (rfl)
@[simp] theorem gtR_ap (a b : Int) : gtR a b = .ok (decide (b < a)) := (rfl)
@[simp] theorem geR_ap (a b : Int) : geR a b = .ok (decide (b ≤ a)) := (rfl)
@[simp] theorem eqR_ap [DecidableEq α] (a b : α) : eqR a b = .ok (decide (a = b)) := (rfl)
@[simp] theorem neR_ap [DecidableEq α] (a b : α) : neR a b = .ok (!decide (a = b)) := (rfl)
@[simp] theorem inR_ap [DecidableEq α] (a : α) (b : List α) : inR a b = .ok (decide (a ∈ b)) := (rfl)
@[simp] theorem niR_ap [DecidableEq α] (a : α) (b : List α) : niR a b = .ok (!decide (a ∈ b)) := (rfl)
@[simp] theorem isBR_ap (a b : Bool) : isBR a b = .ok (decide (a = b)) := (rfl)
@[simp] theorem notBR_ap (a b : Bool) : notBR a b = .ok (!decide (a = b)) := (rfl)
@[simp] theorem isNR_ap (a : Option α) (u : Unit) : isNR a u = .ok a.isNone := (rfl)
@[simp] theorem notNR_ap (a : Option α) (u : Unit) : notNR a u = .ok a.isSome := (rfl)
@[simp] theorem lenR_ap (a : List α) (u : Unit) : lenR (a, u) = .ok (a.length : Int) := (rfl)
@[simp] theorem idR_ap (a : α) (u : Unit) : idR (a, u) = .ok a := (rfl)
@[simp] theorem absR_ap (a : Int) (u : Unit) : absR (a, u) = .ok (if a < 0 then -a else a) := (rfl)
@[simp] theorem sumR_ap (a : List Int) (u : Unit) : sumR (a, u) = .ok a.sum := (rfl)
@[simp] theorem allR_ap (a : List Bool) (u : Unit) : allR (a, u) = .ok (a.all id) := (rfl)
@[simp] theorem anyR_ap (a : List Bool) (u : Unit) : anyR (a, u) = .ok (a.any id) := (rfl)
@[simp] theorem sortR_ap (a : List Int) (u : Unit) : sortR (a, u) = .ok (isort a) := (rfl)
@[simp] theorem enumR_ap (a : List α) (u : Unit) : enumR (a, u) = .ok (enumL a) := (rfl)
@[simp] theorem isiR_ap (b : Bool) (x : α × Unit × Unit) : isiR b x = .ok b := (rfl)
@[simp] theorem selR_ap (f : α → β) (a : α) : selR f a = .ok (f a) := (rfl)
@[simp] theorem wrapR_ap (a : α) : wrapR a = .ok (some a) := (rfl)
@[simp] theorem max2_ap (a b : Int) (u : Unit) : max2R (a, b, u) = .ok (max a b) := by
  show Res.ok _ = Res.ok _
  congr 1
  show (if b > a then b else a) = max a b
  split <;> omega
@[simp] theorem min2_ap (a b : Int) (u : Unit) : min2R (a, b, u) = .ok (min a b) := by
  show Res.ok _ = Res.ok _
  congr 1
  show (if b < a then b else a) = min a b
  split <;> omega
theorem mod_ok {a b : Int} (h : 0 < b) : modR a b = .ok (a % b) := by unfold modR; rw [decide_eq_true h]; rfl
theorem fdiv_ok {a b : Int} (h : 0 < b) (h2 : b < 10 ^ 100) : fdivR a b = .ok (a / b) := by
  have h3 : b.natAbs.log2 < 9000 := by
    have h4 : b.natAbs < 10 ^ 100 := by omega
    have h5 : b.natAbs < 2 ^ 400 := Nat.lt_trans h4 (by decide)
    exact Nat.lt_of_lt_of_le ((Nat.log2_lt (by omega)).mpr h5) (by decide)
  unfold fdivR fdivOk
  rw [decide_eq_true h, decide_eq_true h3]
  rfl
theorem mul_okl {a b : Int} (h : -(2 ^ 64) < a ∧ a < 2 ^ 64) : mulR a b = .ok (a * b) := by
  unfold mulR mulOk
  rw [decide_eq_true h]
  rfl
theorem mul_okr {a b : Int} (h : -(2 ^ 64) < b ∧ b < 2 ^ 64) : mulR a b = .ok (a * b) := by
  unfold mulR mulOk
  rw [decide_eq_true h, Bool.or_true, Bool.true_or]
  rfl
theorem mul_okw {a b : Int} (ha : a.natAbs < 2 ^ 400000) (hb : b.natAbs < 2 ^ 400000) : mulR a b = .ok (a * b) := by
  have h (x : Nat) (hx : x < 2 ^ 400000) : x.log2 < 400000 := by
    by_cases e : x = 0
    · subst e
      rw [Nat.log2_zero]
      decide
    · exact (Nat.log2_lt e).mpr hx
  have h1 := h _ ha
  have h2 := h _ hb
  unfold mulR mulOk
  rw [decide_eq_true (show a.natAbs.log2 + b.natAbs.log2 < 1000000 by omega), Bool.or_true]
  rfl
theorem pow_ok {a b : Int} (h : 0 ≤ b ∧ b ≤ 1000000 ∧ a.natAbs < 2 ^ 64) : powR a b = .ok (a ^ b.toNat) := by unfold powR; rw [decide_eq_true h]; rfl
theorem cat_ok {a b : List α} (h : a.length + b.length ≤ 16777216) : catR a b = .ok (a ++ b) := by unfold catR; rw [decide_eq_true h]; rfl
theorem app_okR {a : List α} {b : α} (h : a.length < 16777216) : appR a b = .ok (a ++ [b]) := by unfold appR; rw [decide_eq_true h]; rfl
theorem rng1_ok {n : Int} (h : -(2 ^ 62) ≤ n ∧ n < 2 ^ 62) : rng1 (n, ()) = .ok (rng 0 n.toNat) := by unfold rng1; rw [decide_eq_true h]; rfl
theorem rng2_ok {a b : Int} (h : -(2 ^ 62) ≤ a ∧ a < 2 ^ 62 ∧ -(2 ^ 62) ≤ b ∧ b < 2 ^ 62) : rng2 (a, b, ()) = .ok (rng a (b - a).toNat) := by unfold rng2; rw [decide_eq_true h]; rfl
theorem rng1_sm {n : Int} (h : -1000000 ≤ n ∧ n ≤ 1000000) : rng1 (n, ()) = .ok (rng 0 n.toNat) := rng1_ok ⟨Int.le_trans (by decide) h.1, Int.lt_of_le_of_lt h.2 (by decide)⟩
theorem rng1_len {n : Nat} (h : n ≤ 1000000) : rng1 ((n : Int), ()) = .ok (rng 0 n) := rng1_sm ⟨by omega, by omega⟩
theorem rng2_sm {a b : Int} (h : -1000000 ≤ a ∧ a ≤ 1000000 ∧ -1000000 ≤ b ∧ b ≤ 1000000) : rng2 (a, b, ()) = .ok (rng a (b - a).toNat) := rng2_ok ⟨Int.le_trans (by decide) h.1, Int.lt_of_le_of_lt h.2.1 (by decide), Int.le_trans (by decide) h.2.2.1, Int.lt_of_le_of_lt h.2.2.2 (by decide)⟩
theorem ix_ok {as : List α} {i : Int} {a : α} (h : atI as i = some a) : ixR as i = .ok a := by unfold ixR; rw [h]; rfl
theorem atI_get {as : List α} {i : Nat} (h : i < as.length) : atI as (i : Int) = some as[i] := atI_nat (List.getElem?_eq_getElem h)
theorem atI_pos {as : List α} {i : Int} (h0 : 0 ≤ i) (h : i < as.length) : atI as i = some (as[i.toNat]'(by omega)) := by
  obtain ⟨n, rfl⟩ := Int.eq_ofNat_of_zero_le h0
  exact atI_get (by omega)
theorem ix_pos {as : List α} {i : Int} (h0 : 0 ≤ i) (h : i < as.length) : ixR as i = .ok (as[i.toNat]'(by omega)) := ix_ok (atI_pos h0 h)
theorem rng_length (lo : Int) (n : Nat) : (rng lo n).length = n := by unfold rng; rw [List.length_map, List.length_range]
theorem mem_rng {lo : Int} {n : Nat} {x : Int} : x ∈ rng lo n ↔ lo ≤ x ∧ x < lo + n := by
  unfold rng
  simp only [List.mem_map, List.mem_range]
  constructor
  · rintro ⟨i, h, rfl⟩
    omega
  · rintro ⟨h1, h2⟩
    exact ⟨(x - lo).toNat, by omega, by omega⟩
theorem rng_zero (lo : Int) : rng lo 0 = [] := (rfl)
theorem rng_cons (lo : Int) (n : Nat) : rng lo (n + 1) = lo :: rng (lo + 1) n := by
  unfold rng
  rw [List.range_succ_eq_map, List.map_cons, List.map_map]
  congr 1
  · omega
  · refine List.map_congr_left fun i _ => ?_
    simp only [Function.comp]
    omega
theorem rng_succ (lo : Int) (n : Nat) : rng lo (n + 1) = rng lo n ++ [lo + n] := by
  unfold rng
  rw [List.range_succ, List.map_append]
  rfl
/-! comprehensions -/
theorem compM_ok {c : α → Res Bool} {f : α → Res β} {p : α → Bool} {g : α → β} : ∀ {as : List α}, (∀ a ∈ as, c a = .ok (p a)) → (∀ a ∈ as, p a = true → f a = .ok (g a)) → compM c f as = .ok ((as.filter p).map g)
  | [], _, _ => rfl
  | a :: as, hc, hf => by
    have h1 := hc a List.mem_cons_self
    have ih := compM_ok (c := c) (f := f) (p := p) (g := g) (as := as) (fun b hb => hc b (List.mem_cons_of_mem _ hb)) (fun b hb => hf b (List.mem_cons_of_mem _ hb))
    show ((c a).calm.bind fun k => if k = true then (f a).calm.bind fun y => (compM c f as).bind fun ys => .ok (y :: ys) else compM c f as) = _
    rw [h1, calm_ok, bind_ok]
    cases e : p a with
    | true => rw [if_pos rfl, hf a List.mem_cons_self e, calm_ok, bind_ok, ih, bind_ok, List.filter_cons, e, if_pos rfl, List.map_cons]
    | false => rw [if_neg Bool.false_ne_true, ih, List.filter_cons, e, if_neg Bool.false_ne_true]
theorem compM_map {f : α → Res β} {g : α → β} {as : List α} (hf : ∀ a ∈ as, f a = .ok (g a)) : compM (fun _ => .ok true) f as = .ok (as.map g) := by
  rw [compM_ok (p := fun _ => true) (fun _ _ => rfl) (fun a ha _ => hf a ha), List.filter_eq_self.mpr (fun _ _ => rfl)]
/-- something comes out, of so many items that all are so -/
theorem compM_some {c : α → Res Bool} {f : α → Res β} {Pb : β → Prop} : ∀ {as : List α}, (∀ a ∈ as, ∃ b, c a = .ok b) → (∀ a ∈ as, ∃ y, f a = .ok y ∧ Pb y) → ∃ ys, compM c f as = .ok ys ∧ ys.length ≤ as.length ∧ ∀ y ∈ ys, Pb y
  | [], _, _ => ⟨[], rfl, Nat.le_refl _, fun _ h => nomatch h⟩
  | a :: as, hc, hf => by
    obtain ⟨b, h1⟩ := hc a List.mem_cons_self
    obtain ⟨y, h2, h3⟩ := hf a List.mem_cons_self
    obtain ⟨ys, i1, i2, i3⟩ := compM_some (c := c) (f := f) (Pb := Pb) (as := as) (fun b hb => hc b (List.mem_cons_of_mem _ hb)) (fun b hb => hf b (List.mem_cons_of_mem _ hb))
    have e : compM c f (a :: as) = ((c a).calm.bind fun k => if k = true then (f a).calm.bind fun y => (compM c f as).bind fun ys => .ok (y :: ys) else compM c f as) := (rfl)
    cases b with
    | true =>
      refine ⟨y :: ys, ?_, Nat.succ_le_succ i2, fun z hz => ?_⟩
      · rw [e, h1, calm_ok, bind_ok, if_pos rfl, h2, calm_ok, bind_ok, i1, bind_ok]
      · rcases List.mem_cons.mp hz with q | q
        · rw [q]
          exact h3
        · exact i3 z q
    | false =>
      refine ⟨ys, ?_, Nat.le_succ_of_le i2, i3⟩
      rw [e, h1, calm_ok, bind_ok, if_neg Bool.false_ne_true, i1]
/-! loops -/
/-- an invariant over what is still to come -/
theorem forM_inv {f : α → S → Out S ρ} {I : List α → S → Prop} {R : ρ → Prop} : ∀ {as : List α} {s : S}, I as s → (∀ a as s, I (a :: as) s → (∃ s', f a s = .nx s' ∧ I as s') ∨ ∃ r, f a s = .rt r ∧ R r) → (∃ s', forM f as s = .nx s' ∧ I [] s') ∨ ∃ r, forM f as s = .rt r ∧ R r
  | [], s, h, _ => .inl ⟨s, rfl, h⟩
  | a :: as, s, h, step => by
    rcases step a as s h with ⟨s', e, h'⟩ | ⟨r, e, h'⟩
    · rw [forM_cons, e, seq_nx]
      exact forM_inv h' step
    · exact .inr ⟨r, by rw [forM_cons, e, seq_rt], h'⟩
/-- that never leaves -/
theorem forM_nx {f : α → S → Out S ρ} {I : List α → S → Prop} {as : List α} {s : S} (h : I as s) (step : ∀ a as s, I (a :: as) s → ∃ s', f a s = .nx s' ∧ I as s') : ∃ s', forM f as s = .nx s' ∧ I [] s' := by
  rcases forM_inv (R := fun _ => False) h (fun a as s h => .inl (step a as s h)) with h | ⟨r, _, h⟩
  · exact h
  · exact h.elim
theorem cut_length (as : List α) (lo hi : Option Int) : (cut as lo hi).length ≤ as.length := by
  unfold cut
  rw [List.length_take, List.length_drop]
  omega
theorem cut_mem {as : List α} {lo hi : Option Int} {a : α} (h : a ∈ cut as lo hi) : a ∈ as := List.mem_of_mem_drop (List.mem_of_mem_take h)
theorem cut_to {as : List α} {n : Int} (h : 0 ≤ n) : cut as none (some n) = as.take n.toNat := by
  obtain ⟨k, rfl⟩ := Int.eq_ofNat_of_zero_le h
  unfold cut
  rw [HT.sIx_none, HT.sIx_nat, List.drop_zero]
  show as.take (min k as.length - 0) = as.take k
  rw [Nat.sub_zero]
  by_cases h : k ≤ as.length
  · rw [Nat.min_eq_left h]
  · rw [Nat.min_eq_right (by omega), List.take_of_length_le (Nat.le_refl _), List.take_of_length_le (by omega)]
theorem cut_from {as : List α} {n : Int} (h : 0 ≤ n) : cut as (some n) none = as.drop n.toNat := by
  obtain ⟨k, rfl⟩ := Int.eq_ofNat_of_zero_le h
  unfold cut
  rw [HT.sIx_none, HT.sIx_nat]
  show (as.drop (min k as.length)).take _ = as.drop k
  by_cases h : k ≤ as.length
  · rw [Nat.min_eq_left h, List.take_of_length_le (by rw [List.length_drop]; omega)]
  · rw [Nat.min_eq_right (by omega), List.drop_of_length_le (Nat.le_refl _), List.drop_of_length_le (by omega)]
    exact List.take_nil
/-! what comes out -/
def Gives (m : Res α) (G : α → Prop) : Prop := ∃ a, m = .ok a ∧ G a
def Rets (o : Out S ρ) (G : ρ → Prop) : Prop := ∃ r, o = .rt r ∧ G r
theorem Rets.fin {o : Out S ρ} {G : ρ → Prop} (h : Rets o G) : Gives o.fin G := by
  obtain ⟨r, e, g⟩ := h
  exact ⟨r, by rw [e]; rfl, g⟩
theorem rets_rt {r : ρ} {G : ρ → Prop} (g : G r) : Rets (.rt r : Out S ρ) G := ⟨r, rfl, g⟩
theorem rets_ite {c : Prop} [Decidable c] {a b : Out S ρ} {G : ρ → Prop} (h1 : c → Rets a G) (h2 : ¬ c → Rets b G) : Rets (if c then a else b) G := by
  by_cases h : c
  · rw [if_pos h]
    exact h1 h
  · rw [if_neg h]
    exact h2 h
theorem gives_ok {a : α} {G : α → Prop} (g : G a) : Gives (.ok a) G := ⟨a, rfl, g⟩
theorem gives_bind {m : Res α} {k : α → Res β} {G : α → Prop} {G' : β → Prop} (h : Gives m G) (hk : ∀ a, G a → Gives (k a) G') : Gives (m.bind k) G' := by
  obtain ⟨a, e, g⟩ := h
  rw [e]
  exact hk a g
theorem rets_out {m : Res α} {k : α → Out S ρ} {G : α → Prop} {G' : ρ → Prop} (h : Gives m G) (hk : ∀ a, G a → Rets (k a) G') : Rets (m.out k) G' := by
  obtain ⟨a, e, g⟩ := h
  rw [e]
  exact hk a g
/-- a loop and what follows -/
theorem seq_forM {f : α → S → Out S ρ} {k : S → Out S' ρ} {G : Out S' ρ → Prop} (I : List α → S → Prop) {as : List α} {s : S} (h0 : I as s) (step : ∀ a as s, I (a :: as) s → (∃ s', f a s = .nx s' ∧ I as s') ∨ ∃ r, f a s = .rt r ∧ G (.rt r)) (hk : ∀ s', I [] s' → G (k s')) : G ((forM f as s).seq k) := by
  rcases forM_inv (R := fun r => G (.rt r)) h0 step with ⟨s', e, h⟩ | ⟨r, e, h⟩
  · rw [e]
    exact hk s' h
  · rw [e]
    exact h
theorem seq_forN {f : α → S → Out S ρ} {k : S → Out S' ρ} {G : Out S' ρ → Prop} (I : List α → S → Prop) {as : List α} {s : S} (h0 : I as s) (step : ∀ a as s, I (a :: as) s → ∃ s', f a s = .nx s' ∧ I as s') (hk : ∀ s', I [] s' → G (k s')) : G ((forM f as s).seq k) :=
  seq_forM I h0 (fun a as s h => .inl (step a as s h)) hk
theorem rets_for {f : α → S → Out S ρ} {k : S → Out S' ρ} {G : ρ → Prop} (I : List α → S → Prop) {as : List α} {s : S} (h0 : I as s) (step : ∀ a as s, I (a :: as) s → (∃ s', f a s = .nx s' ∧ I as s') ∨ ∃ r, f a s = .rt r ∧ G r) (hk : ∀ s', I [] s' → Rets (k s') G) : Rets ((forM f as s).seq k) G :=
  seq_forM (G := fun o => Rets o G) I h0 (fun a as s h => (step a as s h).imp id fun ⟨r, e, g⟩ => ⟨r, e, rets_rt g⟩) hk
/-- over a range -/
theorem forR {f : Int → S → Out S ρ} {k : S → Out S' ρ} {G : Out S' ρ → Prop} {lo : Int} {n : Nat} {s : S} (I : Nat → S → Prop) (h0 : I 0 s) (step : ∀ (i : Nat) s, i < n → I i s → (∃ s', f (lo + (i : Int)) s = .nx s' ∧ I (i + 1) s') ∨ ∃ r, f (lo + (i : Int)) s = .rt r ∧ G (.rt r)) (hk : ∀ s', I n s' → G (k s')) : G ((forM f (rng lo n) s).seq k) := by
  refine seq_forM (fun as s => ∃ i, i ≤ n ∧ as = rng (lo + (i : Int)) (n - i) ∧ I i s) ⟨0, Nat.zero_le _, by simp, h0⟩ ?_ ?_
  · rintro a as s ⟨i, hi, e, h⟩
    have hlt : i < n := by
      by_cases q : i < n
      · exact q
      · rw [show n - i = 0 by omega, rng_zero] at e
        cases e
    obtain ⟨m, hm⟩ : ∃ m, n - i = m + 1 := ⟨n - i - 1, by omega⟩
    rw [hm, rng_cons] at e
    injection e with e1 e2
    subst e1
    rcases step i s hlt h with ⟨s', q1, q2⟩ | q
    · refine .inl ⟨s', q1, i + 1, hlt, ?_, q2⟩
      rw [e2, show n - (i + 1) = m by omega, show lo + (i : Int) + 1 = lo + ((i + 1 : Nat) : Int) by omega]
    · exact .inr q
  · rintro s ⟨i, hi, e, h⟩
    have hl := congrArg List.length e
    rw [rng_length] at hl
    have e2 : i = n := by
      simp only [List.length_nil] at hl
      omega
    subst e2
    exact hk s h
/-- over a list, by what has been taken -/
theorem forL {f : α → S → Out S ρ} {k : S → Out S' ρ} {G : Out S' ρ → Prop} {as : List α} {s : S} (I : List α → S → Prop) (h0 : I [] s) (step : ∀ pre a post s, as = pre ++ a :: post → I pre s → (∃ s', f a s = .nx s' ∧ I (pre ++ [a]) s') ∨ ∃ r, f a s = .rt r ∧ G (.rt r)) (hk : ∀ s', I as s' → G (k s')) : G ((forM f as s).seq k) := by
  refine seq_forM (fun post s => ∃ pre, as = pre ++ post ∧ I pre s) ⟨[], rfl, h0⟩ ?_ ?_
  · rintro a post s ⟨pre, e, h⟩
    rcases step pre a post s e h with ⟨s', q1, q2⟩ | q
    · exact .inl ⟨s', q1, pre ++ [a], by rw [e, List.append_assoc, List.singleton_append], q2⟩
    · exact .inr q
  · rintro s ⟨pre, e, h⟩
    rw [List.append_nil] at e
    subst e
    exact hk s h
/-- a loop at the end of a body -/
theorem seq_end (o : Out S ρ) : (o.seq fun s => Out.nx s) = o := by cases o <;> rfl
end
end Y


set_option Elab.async false
set_option linter.all false
set_option autoImplicit false
set_option maxRecDepth 100000
set_option maxHeartbeats 2000000
/-! Y8: more statements and built-ins: items stored, pop into append, remove, sorted downwards, greatest and least, list of a range, written tuples walked, chains. -/
namespace Y
open PySem PySem.Spec PyProof.Rows L2

def ixSet {α : Type} (as : List α) (i : Int) (a : α) : Res (List α) := ofOpt ((ixN as.length i).map fun j => as.set j a)
def popR {α : Type} (as : List α) (i : Int) : Res (α × List α) := match seqIndex? i as.length with
  | some k => (guardR (decide (-(2 ^ 63) ≤ i ∧ i < 2 ^ 63)) ()).bind fun _ => (ofOpt as[k]?).bind fun a => .ok (a, as.eraseIdx k)
  | none => .no
def remR (as : List Int) (k : Int) : Res (List Int) := guardR (decide (k ∈ as)) (as.erase k)
def dsort (as : List Int) : List Int := (isort as).reverse
def sortDR (as : List Int) : Res (List Int) := .ok (dsort as)
section
variable {S α β ρ : Type}
/-- xs[i] = e -/
def oSetI (g : S → Option (List α)) (w : List α → S → S) (m : S → Res α) (mi : S → Res Int) : S → Out S ρ := fun s => (m s).out fun a => (ofOpt (g s)).out fun as => (mi s).out fun i => (ixSet as i a).out fun as' => .nx (w as' s)
/-- xs.append(ys.pop(i)) -/
def oAppPop (g : S → Option (List α)) (w : List α → S → S) (g' : S → Option (List α)) (w' : List α → S → S) (mi : S → Res Int) : S → Out S ρ := fun s => (ofOpt (g s)).out fun as => (ofOpt (g' s)).out fun bs => (mi s).out fun i => (popR bs i).out fun p => (appR as p.1).out fun as' => .nx (w as' (w' p.2 s))
def oRem (g : S → Option (List Int)) (w : List Int → S → S) (m : S → Res Int) : S → Out S ρ := fun s => (ofOpt (g s)).out fun as => (m s).out fun k => (remR as k).out fun as' => .nx (w as' s)
def cChain (f : α → β → Res Bool) {γ : Type} (f' : β → γ → Res Bool) (ma : S → Res α) (mb : S → Res β) (mc : S → Res γ) : S → Res Bool := fun s => (ma s).bind fun a => (mb s).bind fun b => (f a b).bind fun k => if k = true then (mc s).bind fun c => f' b c else .ok false
end
section
variable [TabC] {X : Cx} {S S' α β γ A ρ : Type} {xr : XR} {W : WX} {ss : SS X.K S} {ss' : SS X.K S'} {pos : Pos} {P : RK X.K V ρ} {e1 e2 : Expr} {p : Pos}
omit [TabC] in
theorem ps_set_ {K : PySem.W.Frag} {R : RT K α} {F : Hp} {vs : List V} {as : List α} {v : V} {a : α} (h : Ps R F vs as) (r : R.r F v a) (j : Nat) : Ps R F (vs.set j v) (as.set j a) := Paired.st r j h
theorem s1_setI {i : Nat} {x : Str} {e ie : Expr} {R : RT X.K α} {g : S → Option (List α)} {w : List α → S → S} {m : S → Res α} {mi : S → Res Int} {px psub : Pos} (l : LO ss i R g w) (he : EE X xr W ss e (pers R) m) (hi : EE X xr W ss ie (pers rInt) mi) (hN : X.N[i]? = some x := by rfl)
    (hv : Vis X.env.scope x := by first | exact Or.inl rfl | exact Or.inr (Or.inl rfl) | exact Or.inr (Or.inr rfl)) (hd : (x == ("__debug__" : Str)) = false := by decide) (hcd : (x == ("__classdict__" : Str)) = false := by decide)
    (hs : swapsWithSole [.Subscript (.Name x px) ie psub] e pos.line X.env = pure false := by rfl) (hw : swappedStores [.Subscript (.Name x px) ie psub] e X.env = pure none := by rfl)
    (h1 : (assignEach [.Subscript (.Name x px) ie psub] X.env).map (·.2) = [assign (.Subscript (.Name x px) ie psub) X.env] := by rfl)
    (ha : ∀ v, assign (.Subscript (.Name x px) ie psub) X.env v = (do
      let ov ← holding [v] (eval (.Name x px) X.env)
      let iv ← holding [v, ov] (eval ie X.env)
      standAt psub
      holding [v, ov, iv] (setItem ov iv v)
      release [v, ov, iv] []) := by intro _; rfl) :
    S1J X xr W ss (.Assign [.Subscript (.Name x px) ie psub] e pos) ss P (oSetI g w m mi) := by
  obtain ⟨t, p, d⟩ := he.ex
  obtain ⟨t', p', d'⟩ := hi.ex
  refine ⟨_, ps_asg p (pg_sub (pe_var hN hv hd hcd) p' set_list ha) hs hw h1, fun F0 B F H σ s D a h => ?_⟩
  refine d.goS a h fun y v F1 H1 _ at1 g1 p1 h => ?_
  obtain ⟨as, eg, h⟩ := WantS.opt h
  obtain ⟨q, vs, e1, e2, e3, e4, e5, e6, e7⟩ := l.get at1.r eg
  refine ⟨_, e1, ?_⟩
  refine d'.goS at1 h fun k u F2 H2 _ at2 g2 p2 h => ?_
  obtain ⟨q', vs', f1, f2, f3, f4, f5, f6, f7⟩ := l.get at2.r eg
  have eq : q' = q := by
    rw [e1] at f1
    cases f1
    rfl
  subst eq
  obtain ⟨as', ek, h⟩ := WantS.opt h
  cases ej : ixN as.length k with
  | none =>
    rw [ej] at ek
    cases ek
  | some j =>
    rw [ej] at ek
    cases ek
    have el : vs'.length = as.length := Paired.length f6
    refine ⟨q', vs', k, j, rfl, p2, f4, by rw [el]; exact ej, ?_⟩
    exact h F2 _ σ (.refl F2) ⟨at2.g.change f2 f5 f4, at2.t, f7 _ _ (ps_set_ f6 (R.mono (g2.ff at1.fh) p1) j)⟩
omit [TabC] in
theorem Paired.er {α β : Type} {P : α → β → Prop} : ∀ {xs : List α} {ys : List β} (i : Nat), Paired P xs ys → Paired P (xs.eraseIdx i) (ys.eraseIdx i)
  | _, _, _, .nil => .nil
  | _, _, 0, .cons _ t => t
  | _, _, i + 1, .cons q t => .cons q (Paired.er i t)
theorem s1_appop {i i' : Nat} {x y : Str} {ie : Expr} {R : RT X.K α} {g g' : S → Option (List α)} {w w' : List α → S → S} {mi : S → Res Int} {p1 p2 p3 q1 q2 q3 : Pos} (l : LO ss i R g w) (l' : LO ss i' R g' w') (hi : EE X xr W ss ie (pers rInt) mi) (hgw : ∀ b s, g (w' b s) = g s)
    (hN : X.N[i]? = some x := by rfl) (hN' : X.N[i']? = some y := by rfl)
    (hm : ∀ (te : TE), PE X ie te → PE X (.Call (.Attribute (.Name x p1) "append" p2) [.Call (.Attribute (.Name y q1) "pop" q2) [ie] [] q3] [] p3) (tBM X.K "list" rAppend (tVar i) (tCons (tBM X.K "list" rPopAt (tVar i') (tCons te tNil)) tNil)) := by
      exact fun te h => pe_bm PySem.F.plainAttrs_list PySem.F.slot_list_append PySem.F.type_list_append mt_append (pv _) (pa_cons (pe_bm PySem.F.plainAttrs_list PySem.F.slot_list_pop PySem.F.type_list_pop mt_popAt (pv _) (pa_cons h pa_nil)) pa_nil))
    (hs : swapsWith (.Call (.Attribute (.Name x p1) "append" p2) [.Call (.Attribute (.Name y q1) "pop" q2) [ie] [] q3] [] p3) none pos.line X.env = pure false := by rfl) :
    S1J X xr W ss (.Expr (.Call (.Attribute (.Name x p1) "append" p2) [.Call (.Attribute (.Name y q1) "pop" q2) [ie] [] q3] [] p3) pos) ss P (oAppPop g w g' w' mi) := by
  obtain ⟨t, p, d⟩ := hi.ex
  refine ⟨_, ps_expr (hm t p) hs, fun F0 B F H σ s D a h => ?_⟩
  obtain ⟨as, eg, h⟩ := WantS.opt h
  obtain ⟨bs, eg', h⟩ := WantS.opt h
  obtain ⟨q, vs, e1, e2, e3, e4, e5, e6, e7⟩ := l.get a.r eg
  obtain ⟨r, us, c1, c2, c3, c4, c5, c6, c7⟩ := l'.get a.r eg'
  refine ⟨_, e1, .inl ⟨rfl, _, .inl (.inl e4)⟩, ?_⟩
  refine ⟨_, c1, .inl ⟨rfl, _, .inl (.inl c4)⟩, ?_⟩
  refine d.goS a h fun k v F1 H1 _ at1 g1 pk h => ?_
  obtain ⟨r', us', d1, d2, d3, d4, d5, d6, d7⟩ := l'.get at1.r eg'
  have er : r' = r := by
    rw [c1] at d1
    cases d1
    rfl
  subst er
  have h : WantS ss P xr W F0 B F1 ((popR bs k).out fun p => (appR as p.1).out fun as' => .nx (w as' (w' p.2 s))) D := h
  have el : us'.length = bs.length := Paired.length d6
  unfold popR at h
  cases ek : seqIndex? k bs.length with
  | none =>
    rw [ek] at h
    exact h.elim
  | some n =>
    rw [ek] at h
    have h : WantS ss P xr W F0 B F1 (((guardR (decide (-(2 ^ 63) ≤ k ∧ k < 2 ^ 63)) ()).bind fun _ => (ofOpt bs[n]?).bind fun a => .ok (a, bs.eraseIdx n)).out fun p => (appR as p.1).out fun as' => .nx (w as' (w' p.2 s))) D := h
    cases ec : decide (-(2 ^ 63) ≤ k ∧ k < 2 ^ 63) with
    | false =>
      rw [ec] at h
      exact h.elim
    | true =>
      rw [ec] at h
      have hc := of_decide_eq_true ec
      have h : WantS ss P xr W F0 B F1 (((ofOpt bs[n]?).bind fun a => .ok (a, bs.eraseIdx n)).out fun p => (appR as p.1).out fun as' => .nx (w as' (w' p.2 s))) D := h
      cases eb : bs[n]? with
      | none =>
        rw [eb] at h
        exact h.elim
      | some b =>
        rw [eb] at h
        obtain ⟨u, hu, ru⟩ := Paired.get2 d6 eb
        refine ⟨r', us', k, n, u, rfl, by rw [show v = _ from pk], d4, hc.1, hc.2, by rw [el]; exact ek, hu, ?_⟩
        have at2 : At ss F0 B F1 (upd H1 r' (.lst (us'.eraseIdx n))) σ (w' (bs.eraseIdx n) s) := ⟨at1.g.change d2 d5 d4, at1.t, d7 _ _ (Paired.er n d6)⟩
        obtain ⟨q', vs', f1, f2, f3, f4, f5, f6, f7⟩ := l.get at2.r ((hgw _ _).trans eg)
        have eqq : q' = q := by
          rw [e1] at f1
          cases f1
          rfl
        subst eqq
        have h : WantS ss P xr W F0 B F1 ((appR as b).out fun as' => .nx (w as' (w' (bs.eraseIdx n) s))) D := h
        obtain ⟨hz, h⟩ := WantS.grd h
        have hz : as.length < 16777216 := of_decide_eq_true hz
        refine ⟨q', vs', u, rfl, rfl, f4, by rw [sizeLine_eq, show vs'.length = as.length from Paired.length f6]; exact hz, ?_⟩
        exact h F1 _ σ (.refl F1) ⟨at2.g.change f2 f5 f4, at2.t, f7 _ _ (Paired.app f6 (.cons ru .nil))⟩
theorem s1_rem {i : Nat} {x : Str} {e : Expr} {g : S → Option (List Int)} {w : List Int → S → S} {m : S → Res Int} {p1 p2 p3 : Pos} (l : LO ss i rInt g w) (he : EE X xr W ss e (pers rInt) m) (hN : X.N[i]? = some x := by rfl)
    (hm : ∀ (te : TE), PE X e te → PE X (.Call (.Attribute (.Name x p1) "remove" p2) [e] [] p3) (tBM X.K "list" rRemI (tVar i) (tCons te tNil)) := by exact fun te h => pe_bm PySem.F.plainAttrs_list PySem.F.slot_list_remove PySem.F.type_list_remove mt_remove (pv _) (pa_cons h pa_nil))
    (hs : swapsWith (.Call (.Attribute (.Name x p1) "remove" p2) [e] [] p3) none pos.line X.env = pure false := by rfl) :
    S1J X xr W ss (.Expr (.Call (.Attribute (.Name x p1) "remove" p2) [e] [] p3) pos) ss P (oRem g w m) := by
  obtain ⟨t, p, d⟩ := he.ex
  refine ⟨_, ps_expr (hm t p) hs, fun F0 B F H σ s D a h => ?_⟩
  obtain ⟨as, eg, h⟩ := WantS.opt h
  obtain ⟨q, vs, e1, e2, e3, e4, e5, e6, e7⟩ := l.get a.r eg
  refine ⟨_, e1, .inl ⟨rfl, _, .inl (.inl e4)⟩, ?_⟩
  refine d.goS a h fun y v F1 H1 _ at1 g1 p1 hw1 => ?_
  obtain ⟨hc, hw1⟩ := WantS.grd hw1
  have hc : y ∈ as := of_decide_eq_true hc
  obtain ⟨q', vs', f1, f2, f3, f4, f5, f6, f7⟩ := l.get at1.r eg
  have eq : q' = q := by
    rw [e1] at f1
    cases f1
    rfl
  subst eq
  obtain ⟨j, _, j2, j3, j4⟩ := first_at hc
  refine ⟨q', as, y, j, rfl, by rw [show v = _ from p1], by rw [← ps_ints f6]; exact f4, j2, j3, ?_⟩
  rw [j4]
  exact hw1 F1 _ σ (.refl F1) ⟨at1.g.change f2 f5 f4, at1.t, f7 _ _ (ints_ps _)⟩

/-! ### built-ins -/
omit [TabC] in
theorem imax_spec : ∀ (as : List Int) (m : Int), m ∈ as → (∀ y ∈ as, y ≤ m) → imax as = some m := by
  have gen : ∀ (as : List Int) (o : Option Int), as.foldl (fun m x => match m with | none => some x | some y => some (max y x)) o = match o with
      | none => imax as
      | some y => some (as.foldl max y) := by
    intro as
    induction as with
    | nil =>
      intro o
      cases o <;> rfl
    | cons a as ih =>
      intro o
      cases o with
      | none => rfl
      | some y =>
        rw [List.foldl_cons, ih]
        rfl
  have fm : ∀ (as : List Int) (y : Int), (∀ z ∈ as, z ≤ as.foldl max y) ∧ y ≤ as.foldl max y ∧ (as.foldl max y = y ∨ as.foldl max y ∈ as) := by
    intro as
    induction as with
    | nil => exact fun y => ⟨fun _ h => (by cases h), Int.le_refl _, .inl rfl⟩
    | cons a as ih =>
      intro y
      obtain ⟨i1, i2, i3⟩ := ih (max y a)
      rw [List.foldl_cons]
      refine ⟨fun z hz => ?_, by omega, ?_⟩
      · rcases List.mem_cons.mp hz with c | c
        · omega
        · exact i1 z c
      · rcases i3 with c | c
        · rw [c]
          by_cases q : y ≤ a
          · exact .inr (by rw [show max y a = a by omega]; exact List.mem_cons_self)
          · exact .inl (by omega)
        · exact .inr (List.mem_cons_of_mem _ c)
  intro as m hm hall
  cases as with
  | nil => cases hm
  | cons a as =>
    have e : imax (a :: as) = some (as.foldl max a) := gen as (some a)
    rw [e]
    obtain ⟨i1, i2, i3⟩ := fm as a
    congr 1
    have h1 : as.foldl max a ≤ m := by
      rcases i3 with c | c
      · rw [c]
        exact hall a List.mem_cons_self
      · exact hall _ (List.mem_cons_of_mem _ c)
    have h2 : m ≤ as.foldl max a := by
      rcases List.mem_cons.mp hm with c | c
      · omega
      · exact i1 m c
    omega
omit [TabC] in
theorem imin_spec : ∀ (as : List Int) (m : Int), m ∈ as → (∀ y ∈ as, m ≤ y) → imin as = some m := by
  have gen : ∀ (as : List Int) (o : Option Int), as.foldl (fun m x => match m with | none => some x | some y => some (min y x)) o = match o with
      | none => imin as
      | some y => some (as.foldl min y) := by
    intro as
    induction as with
    | nil =>
      intro o
      cases o <;> rfl
    | cons a as ih =>
      intro o
      cases o with
      | none => rfl
      | some y =>
        rw [List.foldl_cons, ih]
        rfl
  have fm : ∀ (as : List Int) (y : Int), (∀ z ∈ as, as.foldl min y ≤ z) ∧ as.foldl min y ≤ y ∧ (as.foldl min y = y ∨ as.foldl min y ∈ as) := by
    intro as
    induction as with
    | nil => exact fun y => ⟨fun _ h => (by cases h), Int.le_refl _, .inl rfl⟩
    | cons a as ih =>
      intro y
      obtain ⟨i1, i2, i3⟩ := ih (min y a)
      rw [List.foldl_cons]
      refine ⟨fun z hz => ?_, by omega, ?_⟩
      · rcases List.mem_cons.mp hz with c | c
        · omega
        · exact i1 z c
      · rcases i3 with c | c
        · rw [c]
          by_cases q : a ≤ y
          · exact .inr (by rw [show min y a = a by omega]; exact List.mem_cons_self)
          · exact .inl (by omega)
        · exact .inr (List.mem_cons_of_mem _ c)
  intro as m hm hall
  cases as with
  | nil => cases hm
  | cons a as =>
    have e : imin (a :: as) = some (as.foldl min a) := gen as (some a)
    rw [e]
    obtain ⟨i1, i2, i3⟩ := fm as a
    congr 1
    have h1 : m ≤ as.foldl min a := by
      rcases i3 with c | c
      · rw [c]
        exact hall a List.mem_cons_self
      · exact hall _ (List.mem_cons_of_mem _ c)
    have h2 : as.foldl min a ≤ m := by
      rcases List.mem_cons.mp hm with c | c
      · omega
      · exact i1 m c
    omega
theorem ee_max1 {es : List Expr} {m : S → Res (List Int × Unit)} (hm : X.mg "max" = none) (h : AA X xr W ss (e1 :: es) (aC (seq rInt) aN) m) (hc : X.calm = true := by rfl) (hg : Gl X "max" := by rfl) (he : starEach (e1 :: es) X.env = (false, eval e1 X.env) :: starEach es X.env := by rfl) (hpl : (backTo pos (starEach es X.env)).any (·.1) = false := by rfl) :
    EE X xr W ss (.Call (.Name "max" p) (e1 :: es) [] pos) (pers rInt) (cCall maxR m) :=
  ee_callB (cr_max hc) hm h (fun H0 F H vs a E Q s0 s h hw => by
    obtain ⟨v, r, rfl, ⟨q, us, e, hq, ps⟩, hr⟩ := h
    have hr : r = [] := hr
    subst hr
    obtain ⟨x, ex, hw⟩ := Want.opt hw
    have hne : 0 < a.1.length := by
      cases ha : a.1 with
      | nil =>
        rw [ha] at ex
        cases ex
      | cons b bs => exact Nat.succ_pos _
    refine ⟨q, a.1, by rw [e], by rw [← ps_ints ps]; exact hq, hne, fun m h1 h2 => ?_⟩
    have := imax_spec a.1 m h1 h2
    rw [ex] at this
    cases this
    exact hw.here s rfl) (by decide +kernel) hg (by decide) (by decide) he hpl
theorem ee_min1 {es : List Expr} {m : S → Res (List Int × Unit)} (hm : X.mg "min" = none) (h : AA X xr W ss (e1 :: es) (aC (seq rInt) aN) m) (hc : X.calm = true := by rfl) (hg : Gl X "min" := by rfl) (he : starEach (e1 :: es) X.env = (false, eval e1 X.env) :: starEach es X.env := by rfl) (hpl : (backTo pos (starEach es X.env)).any (·.1) = false := by rfl) :
    EE X xr W ss (.Call (.Name "min" p) (e1 :: es) [] pos) (pers rInt) (cCall minR m) :=
  ee_callB (cr_min hc) hm h (fun H0 F H vs a E Q s0 s h hw => by
    obtain ⟨v, r, rfl, ⟨q, us, e, hq, ps⟩, hr⟩ := h
    have hr : r = [] := hr
    subst hr
    obtain ⟨x, ex, hw⟩ := Want.opt hw
    have hne : 0 < a.1.length := by
      cases ha : a.1 with
      | nil =>
        rw [ha] at ex
        cases ex
      | cons b bs => exact Nat.succ_pos _
    refine ⟨q, a.1, by rw [e], by rw [← ps_ints ps]; exact hq, hne, fun m h1 h2 => ?_⟩
    have := imin_spec a.1 m h1 h2
    rw [ex] at this
    cases this
    exact hw.here s rfl) (by decide +kernel) hg (by decide) (by decide) he hpl
omit [TabC] in
theorem dsort_perm (as : List Int) : (dsort as).Perm as := (List.reverse_perm _).trans (isort_perm as)
omit [TabC] in
theorem dsort_sorted (as : List Int) : (dsort as).Pairwise (· ≥ ·) := by
  unfold dsort
  rw [List.pairwise_reverse]
  exact isort_sorted as
omit [TabC] in
theorem sorted_down {as bs : List Int} (p : as.Perm bs) (h1 : as.Pairwise (· ≥ ·)) (h2 : bs.Pairwise (· ≥ ·)) : as = bs := by
  have := sorted_one (((List.reverse_perm as).trans p).trans (List.reverse_perm bs).symm) (List.pairwise_reverse.mpr h1) (List.pairwise_reverse.mpr h2)
  exact List.reverse_inj.mp this
theorem ee_sortedR {m : S → Res (List Int)} {kp bp : Pos} {j : Nat} (hm : X.mg "sorted" = none) (h : EE X xr W ss e1 (seq rInt) m) (hg : Gl X "sorted" := by rfl) (hs1 : starEach [e1] X.env = (false, eval e1 X.env) :: starEach [] X.env := by rfl)
    (he : backTo pos (starEach [e1] X.env) = (false, eval e1 X.env) :: backTo pos (starEach [] X.env) := by rfl) (hpl : (backTo pos (starEach [e1] X.env)).any (·.1) = false := by rfl)
    (hall : (backToKw pos (keywordEach [⟨some "reverse", .Constant (.bool true) j bp, kp⟩] X.env)).all (·.1.isSome) = true := by rfl) (hnone : (backToKw pos (keywordEach [⟨some "reverse", .Constant (.bool true) j bp, kp⟩] X.env)).any (·.1.isNone) = false := by rfl)
    (hks : (backToKw pos (keywordEach [⟨some "reverse", .Constant (.bool true) j bp, kp⟩] X.env)).filterMap (·.1) = [Str.ofString "reverse"] := by rfl) :
    EE X xr W ss (.Call (.Name "sorted" p) [e1] [⟨some "reverse", .Constant (.bool true) j bp, kp⟩] pos) (fre rInt) (u1 sortDR m) := by
  obtain ⟨t, pa, d⟩ := h.ex
  refine ⟨_, pe_callBK (cr_sortedRev (b := true)) hg hm (by decide +kernel) (pa_cons pa pa_nil hs1) (pk_cons pe_bl pk_nil) (by decide) (by decide) he hpl hall hnone hks, fun F0 B F H σ s Q a hw => ?_⟩
  refine d.go a hw fun as v F1 H1 _ at1 g1 p1 hw1 => ?_
  obtain ⟨q, us, rfl, hq, ps⟩ := p1
  refine ⟨q, as, rfl, rfl, by rw [← ps_ints ps]; exact hq, fun ns z k1 k2 hz => ?_⟩
  have k2 : ns.Pairwise (· ≥ ·) := k2
  rw [sorted_down (k1.trans (dsort_perm as).symm) k2 (dsort_sorted as)]
  exact hw1 _ F1 _ (.newH at1.fh hz) ⟨z, _, rfl, g1.hh.free hz, upd_same, at1.fh.free hz, ints_ps _⟩

/-! ### chains of two comparisons -/
theorem ee_chain {op op' : CmpOp} {r r' : R2} {e3 : Expr} {Pa : RK X.K V α} {Pb : RK X.K V β} {Pc : RK X.K V γ} {ma : S → Res α} {mb : S → Res β} {mc : S → Res γ} {f : α → β → Res Bool} {f' : β → γ → Res Bool} (ho : OpR X (compareOp op) r) (ho' : OpR X (compareOp op') r')
    (ea : EE X xr W ss e1 Pa ma) (eb : EE X xr W ss e2 Pb mb) (ec : EE X xr W ss e3 Pc mc)
    (hr : ∀ H0 F H x y a b E Q, Same H0 H → Same F H → Pa.p H0 F H x a → Pb.p H0 F H y b → Want xr (pers (K := X.K) rBool) E H0 F H (f a b) Q → r x y H Q)
    (hr' : ∀ H0 F H x y a b E Q, Same H0 H → Same F H → Pb.p H0 F H x a → Pc.p H0 F H y b → Want xr (pers (K := X.K) rBool) E H0 F H (f' a b) Q → r' x y H Q)
    (hm : ∀ {te tb tc : TE}, PE X e1 te → PE X e2 tb → PE X e3 tc → PE X (.Compare e1 [op, op'] [e2, e3] pos) (tChain r r' te tb tc)) : EE X xr W ss (.Compare e1 [op, op'] [e2, e3] pos) (pers rBool) (cChain f f' ma mb mc) := by
  obtain ⟨ta, pa, da⟩ := ea.ex
  obtain ⟨tb, pb, db⟩ := eb.ex
  obtain ⟨tc, pc, dc⟩ := ec.ex
  refine ⟨_, hm pa pb pc, fun F0 B F H σ s Q at0 hw => ?_⟩
  refine da.go at0 hw fun a v F1 H1 _ at1 g1 p1 hw1 => ?_
  refine db.go at1 hw1 fun b u F2 H2 _ at2 g2 p2 hw2 => ?_
  refine hr H F2 H2 v u a b (WE W σ) _ (g1.hh.trans g2.hh) at2.fh (Pa.st at1.fh g2 p1) (Pb.pre g1.hh p2) ?_
  have hw2 : Want xr (pers (K := X.K) rBool) (WE W σ) H F2 H2 ((f a b).bind fun k => if k = true then (mc s).bind fun c => f' b c else .ok false) Q := hw2
  cases ef : f a b with
  | er x =>
    rw [ef] at hw2
    exact hw2
  | no =>
    rw [ef] at hw2
    exact hw2.elim
  | ok k =>
    rw [ef] at hw2
    intro z F3 H3 g3 pz
    refine ⟨k, pz, ?_⟩
    have at3 := at2.grow g3
    have hw2 : Want xr (pers (K := X.K) rBool) (WE W σ) H F2 H2 (if k = true then (mc s).bind fun c => f' b c else .ok false) Q := hw2
    cases k with
    | false =>
      rw [if_neg Bool.false_ne_true] at hw2 ⊢
      exact (hw2.shift g3).here at3.fh rfl
    | true =>
      rw [if_pos rfl] at hw2 ⊢
      refine dc.go at3 (hw2.shift g3) fun c y F4 H4 _ at4 g4 p4 hw4 => ?_
      exact hr' H F4 H4 u y b c (WE W σ) _ (((g1.hh.trans g2.hh).trans g3.hh).trans g4.hh) at4.fh (Pb.st at3.fh g4 (Pb.st at2.fh g3 (Pb.pre g1.hh p2))) (Pc.pre ((g1.hh.trans g2.hh).trans g3.hh) p4) hw4
end
/-! ### more data that == tells apart -/
section
variable [TabC] {K : PySem.W.Frag} {α β : Type} [DecidableEq α] [DecidableEq β]
def deUnit : DE (rUnit (K := K)) 0 := ⟨fun _ => .none, fun h => by cases h; exact .non, fun _ => by simp [PyData.canLay0], fun _ => by simp [PyData.depth], fun a b => by simp [PyData.eqv]⟩
/-- kinds that None is told from -/
structure DN {α : Type} [DecidableEq α] {R : RT K α} {n : Nat} (d : DE R n) : Prop where
  no : ∀ a, PyData.eqv .none (d.enc a) = false ∧ PyData.eqv (d.enc a) .none = false
def deOpt {R : RT K α} {n : Nat} (d : DE R n) (dn : DN d) : DE (rOpt R) n := ⟨fun o => match o with | none => .none | some a => d.enc a, fun {H v o} h => by
  cases o with
  | none =>
    have h : v = .non := h
    subst h
    exact .non
  | some a => exact d.dp h.2, fun {H v o} h => by
  cases o with
  | none => simp [PyData.canLay0]
  | some a => exact d.lay h.2, fun o => by
  cases o with
  | none => simp [PyData.depth]
  | some a => exact d.dep a, fun a b => by
  cases a with
  | none =>
    cases b with
    | none => simp [PyData.eqv]
    | some b =>
      show PyData.eqv .none (d.enc b) = _
      rw [(dn.no b).1]
      rfl
  | some a =>
    cases b with
    | none =>
      show PyData.eqv (d.enc a) .none = _
      rw [(dn.no a).2]
      rfl
    | some b =>
      show PyData.eqv (d.enc a) (d.enc b) = _
      rw [d.eq]
      by_cases h : a = b <;> simp [h]⟩
omit [TabC] in
theorem dn_int : DN (deInt (K := K)) := ⟨fun a => ⟨by simp [deInt, PyData.eqv], by simp [deInt, PyData.eqv]⟩⟩
theorem dn_list {R : RT K α} {n : Nat} {d : DE R n} : DN (deList d) := ⟨fun a => ⟨by simp [deList, deSeq, PyData.eqv], by simp [deList, deSeq, PyData.eqv]⟩⟩
omit [TabC] in
theorem dn_tup {T : TR K α} {n : Nat} {d : DET T n} : DN (deTup d) := ⟨fun a => ⟨by simp [deTup, PyData.eqv], by simp [deTup, PyData.eqv]⟩⟩
end
end Y


set_option Elab.async false
set_option linter.all false
set_option autoImplicit false
set_option maxRecDepth 100000
set_option maxHeartbeats 2000000
/-! Y9: set of a list of ints, sorted and counted; list of a range; count; statements that are not reached. -/
namespace Y
open PySem PySem.Spec PyProof.Rows L2
section
variable {P : Program} {w : World} {A : Around} {E : Value → Shared → Prop} {s : Shared}
/-- the new set object -/
abbrev setO0 (w : World) : Obj := { cls := .type "set", dict := none, data := .set #[] 0 (.fresh 0 0 (!w.params.followText "set-order")) }
/-- .. filled out of the list at l -/
theorem fill_set {h : Heap} {S l : Addr} {items : Array Value} {ns : List Int} {s0 : Shared} (hh : A.handled = none) (eS : h.get? S = some (setO0 w)) (hl : h.IsList l items) (hi : IntsAre items.toList ns) (hb : ns.length + 1 < scanBound)
    {R : Result → Shared → Prop}
    (hR : ∀ h' tk c, SetR w h' S (fun j => decide (j ∈ ns)) c → c ≤ ns.length → (∀ b o, b ≠ S → h.get? b = some o → h'.get? b = some o) → R (.ok (.ret .none)) { s0 with heap := h', toks := tk }) :
    codeAny (model P w) A (.call (.builtin "set.__init__") ⟨[.ref S, .ref l], []⟩) R { s0 with heap := h } := by
  have hz : items.size = ns.length := by
    rw [← Array.length_toList]
    exact IntsAre.length hi
  have hT : Shared.TypeIs { s0 with heap := h } (.ref S) "set" := ⟨_, eS, rfl⟩
  have lS : l ≠ S := by
    rintro rfl
    obtain ⟨o, ho, hc, _⟩ := hl
    rw [eS] at ho
    cases ho
    exact absurd hc (show ¬ (Value.type "set" = Value.type "list") by decide)
  refine codeAny_call_builtin F.called_set.init.plain F.entry_set_init (check_set_init_1 hT ?_)
  obtain ⟨⟨_, od, _, os⟩, ho, hc, n, hd⟩ := id hl
  cases hc
  cases hd
  have f1 := F.sub_list_set
  have f2 := F.sub_list_frozenset
  have f3 : (Value.type "list" == Value.type "dict") = false := by decide
  have sS : S < h.objs.size := Heap.lt_size eS
  have sl : l < h.objs.size := Heap.lt_size ho
  unfold Builtin.«set.__init__» noKeywords Builtin.Frozenset.updateFrom
  generalize ei : pyIter = it
  wp_walk
  subst ei
  refine wpAny_pyIter_list (s := { s0 with heap := h }) hl (wpAny_bind (wpAny_runValue ?_))
  have hA : A.in1.in1.handled = none := by simp [hh]
  refine set_update_ints ((Walks.list hA _ l (Nat.ne_of_lt sl) items).toS) S (by simp; exact ⟨Nat.ne_of_lt sS, fun z => lS z.symm⟩) ns hz hb (fun i v hv => ?_) (items.size - 0) 0 _ (by omega) (Nat.zero_le _) ?_ ?_ fun s' c hm hc' hS' => ?_
  · obtain ⟨t, e⟩ := IntsAre.int_at hi i v (by rw [Array.getElem?_toList]; exact hv)
    have il : i < ns.length := by
      rw [← hz]
      exact (Array.getElem?_eq_some_iff.mp hv).1
    exact ⟨ns[i], t, List.getElem?_eq_getElem il, by rw [e, List.getD_eq_getElem?_getD, List.getElem?_eq_getElem il]; rfl⟩
  · exact ⟨⟨_, Heap.get?_push_size _ rfl, rfl, rfl⟩, hl.push _⟩
  · exact ⟨0, Nat.le_refl 0, setR_new_at (w := w) (Heap.get?_push_of_some _ eS)⟩
  · obtain ⟨h', g', d', tk', os'⟩ := s'
    have eg : g' = s0.gens := hm.gens
    have ed : d' = s0.drawn := hm.drawn
    have eo : os' = s0.os := hm.os
    subst eg
    subst ed
    subst eo
    refine wpAny_pure (wpAny_pure (hR h' tk' c hS' (by rw [← hz]; exact hc') fun b o hb e => hm.heap b o ?_ (Heap.get?_push_of_some _ e)))
    have sb : b < h.objs.size := Heap.lt_size e
    simp
    exact ⟨hb, Nat.ne_of_lt sb⟩
/-- set(xs), xs a list of ints -/
theorem call_set_listR {l : Addr} {items : Array Value} {ns : List Int} {Q : Value → Shared → Prop} (hh : A.handled = none) (hl : s.heap.IsList l items) (hi : IntsAre items.toList ns) (hb : ns.length + 1 < scanBound)
    (hQ : ∀ h' tk c, SetR w h' s.heap.objs.size (fun j => decide (j ∈ ns)) c → c ≤ ns.length → (∀ b o, s.heap.get? b = some o → h'.get? b = some o) → Q (.ref s.heap.objs.size) { s with heap := h', toks := tk }) :
    wpAny (model P w) A (call (.type "set") [.ref l]) Q E s := by
  have f := F.called_set
  obtain ⟨c, tl, q1⟩ := f.mro
  have q2 := f.made
  have q3 := f.sub
  have q4 := f.notType
  have q5 := f.canCreate
  have q6 := F.typeCall_set_1 (.ref l)
  refine wpAny_call (codeAny_of_tree ?_)
  show wpAny _ _ (callAny (.type "set") _) _ _ _
  refine wpAny_pure ⟨Code.quiet_builtin _ (by decide +kernel), codeAny_builtin F.entry_type_call ?_⟩
  rw [Around.under_plain (weight_type_call_type "set" [.ref l] []) rfl]
  repeat (any_goals (first | assumption | wp_step))
  refine codeAny_mono (code_set_led1 (.ref l) (E := E) (Q₁ := fun v s' => v = .ref s.heap.objs.size ∧ s' = { s with heap := s.heap.push (setO0 w) }) ⟨rfl, rfl⟩) fun r s1 hr => ?_
  rcases r with e | fl
  · exact hr
  · cases fl with
    | ret v =>
      obtain ⟨rfl, rfl⟩ := hr
      have eS : (s.heap.push (setO0 w)).get? s.heap.objs.size = some (setO0 w) := Heap.get?_push_size _ rfl
      have hT : Shared.TypeIs { s with heap := s.heap.push (setO0 w) } (.ref s.heap.objs.size) "set" := ⟨_, eS, rfl⟩
      have q7 := f.init.lookup
      have q8 := f.init.bind (.ref s.heap.objs.size)
      repeat (any_goals (first | assumption | wp_step))
      refine codeAny_mono (fill_set (s0 := s) (h := s.heap.push (setO0 w)) (S := s.heap.objs.size) (R := wants (fun v s2 => v = .none ∧ ∃ h' tk c, s2 = { s with heap := h', toks := tk } ∧ SetR w h' s.heap.objs.size (fun j => decide (j ∈ ns)) c ∧ c ≤ ns.length ∧ ∀ b o, s.heap.get? b = some o → h'.get? b = some o) E) ?_ eS (hl.push _) hi hb fun h' tk c a1 a2 a3 => ⟨rfl, h', tk, c, rfl, a1, a2, fun b o e => a3 b o (Nat.ne_of_lt (Heap.lt_size e)) (Heap.get?_push_of_some _ e)⟩) fun r s2 hr => ?_
      · simp [hh]
      · rcases r with e | fl
        · exact hr
        · cases fl with
          | ret v =>
            obtain ⟨rfl, h', tk, c, rfl, a1, a2, a3⟩ := hr
            repeat (any_goals (first | assumption | wp_step))
            exact hQ _ _ _ a1 a2 a3
          | _ => exact hr.elim
    | _ => exact hr.elim
end

/-! ### the members, ascending -/
def sins (k : Int) : List Int → List Int
  | [] => [k]
  | x :: l => if k < x then k :: x :: l else if k = x then x :: l else x :: sins k l
def sset : List Int → List Int
  | [] => []
  | k :: l => sins k (sset l)
theorem mem_sins (k j : Int) : ∀ l, j ∈ sins k l ↔ j = k ∨ j ∈ l
  | [] => by simp [sins]
  | x :: l => by
    unfold sins
    split
    · simp
    · split
      · rename_i h
        subst h
        simp
      · simp [mem_sins k j l]
        constructor <;> (rintro (h | h | h) <;> simp [h])
theorem mem_sset (j : Int) : ∀ l, j ∈ sset l ↔ j ∈ l
  | [] => by simp [sset]
  | k :: l => by simp [sset, mem_sins, mem_sset j l]
theorem sins_sorted (k : Int) : ∀ l, l.Pairwise (· < ·) → (sins k l).Pairwise (· < ·)
  | [], _ => by simp [sins]
  | x :: l, h => by
    obtain ⟨h1, h2⟩ := List.pairwise_cons.mp h
    unfold sins
    split
    · rename_i q
      refine List.pairwise_cons.mpr ⟨fun y hy => ?_, h⟩
      rcases List.mem_cons.mp hy with z | z
      · omega
      · have := h1 y z
        omega
    · split
      · exact h
      · refine List.pairwise_cons.mpr ⟨fun y hy => ?_, sins_sorted k l h2⟩
        rcases (mem_sins k y l).mp hy with z | z
        · omega
        · exact h1 y z
theorem sset_sorted : ∀ l, (sset l).Pairwise (· < ·)
  | [] => List.Pairwise.nil
  | k :: l => sins_sorted k _ (sset_sorted l)
theorem nodup_of_lt {l : List Int} (h : l.Pairwise (· < ·)) : l.Nodup := h.imp fun q => by omega
theorem lt_one {as bs : List Int} (h1 : as.Pairwise (· < ·)) (h2 : bs.Pairwise (· < ·)) (hm : ∀ k, k ∈ as ↔ k ∈ bs) : as = bs :=
  sorted_one ((List.perm_ext_iff_of_nodup (nodup_of_lt h1) (nodup_of_lt h2)).mpr hm) (h1.imp fun q => by omega) (h2.imp fun q => by omega)
theorem sset_length_le (l : List Int) : (sset l).length ≤ l.length := by
  induction l with
  | nil => simp [sset]
  | cons k l ih =>
    have : ∀ m : List Int, (sins k m).length ≤ m.length + 1 := by
      intro m
      induction m with
      | nil => simp [sins]
      | cons x m ih2 =>
        unfold sins
        split
        · simp
        · split
          · simp
          · simp
            exact ih2
    have := this (sset l)
    simp [sset]
    omega
def ssetR (as : List Int) : Res (List Int) := guardR (decide (as.length < 1000 ∧ (sset as).length < 64)) (sset as)
def lsetR (as : List Int) : Res Int := guardR (decide (as.length < 1000)) ((sset as).length : Int)
theorem setR_count {w : World} {h : Heap} {a : Addr} {ns : List Int} {c : Nat} (R : SetR w h a (fun j => decide (j ∈ ns)) c) : c = (sset ns).length := by
  obtain ⟨o, es, ep, t, ho, hex, hd, g, nd, hm, hb, hf, hn, hr, hl⟩ := R
  have p : (es.toList.map keyOf).Perm (sset ns) := (List.perm_ext_iff_of_nodup nd (nodup_of_lt (sset_sorted ns))).mpr fun k => by
    rw [mem_sset, ← hm k, decide_eq_true_eq]
  rw [← p.length_eq, List.length_map, Array.length_toList]
  exact hn.symm
section
variable [TabC] {X : Cx} {ta : TE}
/-- sorted(set(xs)) -/
def tSSet (K : PySem.W.Frag) (ta : TE) : TE := fun σ H Q => ta σ H fun x H1 => ∃ (l : Addr) (ns : List Int), x = V.ref l ∧ SqL K H1 l (ns.map V.int) ∧ ns.length < 1000 ∧ (sset ns).length < 64 ∧ ∀ p, H1 p = none → Q (.ref p) (upd H1 p (.lst ((sset ns).map V.int)))
theorem pe_sset {a : Expr} {p p2 q pos : Pos} (hc : X.calm = true) (hg : Gl X "sorted") (hm : X.mg "sorted" = none) (hg2 : Gl X "set") (hm2 : X.mg "set" = none) (ha : PE X a ta) (na : starEach [a] X.env = (false, eval a X.env) :: starEach [] X.env := by rfl) :
    PE X (.Call (.Name "sorted" p) [.Call (.Name "set" p2) [a] [] q] [] pos) (tSSet X.K ta) := by
  refine ⟨fun pins s σ H Q I h => ?_⟩
  refine Call_ (ld_blt I hg hm (show bootBuiltins "sorted" = some (.builtin "sorted") by decide +kernel) ?_)
  refine PyProof.Rows.callWith_builtin1 (PyProof.Rows.args_cons ?_ rfl) rfl rfl
  refine Call_ (ld_blt I hg2 hm2 PyProof.Rows.boot_set ?_)
  refine PyProof.Rows.callWith_type1 (PyProof.Rows.args_cons (thn (ha.run pins s σ H _ I h) fun v s1 ⟨x, H1, I1, r1, q1⟩ => PyProof.Rows.args_nil ?_) na) na rfl
  obtain ⟨l, ns, rfl, hq, h1, h2, q1⟩ := q1
  cases r1
  obtain ⟨its, r, pl, hz⟩ := I1.list hq
  refine call_set_listR (I1.ok.hd hc) pl.isList (ns := ns) (by simpa using r.ints) (by unfold scanBound; omega) fun h' tk c hS hc' hk => ?_
  have ec := setR_count hS
  have I2 : Inv X pins σ H1 { s1 with heap := h', toks := tk } := I1.kept hk
  refine PyProof.Rows.args_nil ?_
  have hS2 : SetR X.w ({ s1 with heap := h', toks := tk } : Shared).heap s1.heap.objs.size (fun j => decide (j ∈ ns)) c := hS
  generalize ({ s1 with heap := h', toks := tk } : Shared) = s2 at I2 hS2 ⊢
  refine sorted_set (s := s2) hS2 (I2.ok.hd hc) (by omega) fun s' p out c ns' k g o hp hg hi hs hm hl => ?_
  have en : ns' = sset ns := lt_one hs (sset_sorted ns) fun k => by rw [hm k, mem_sset, decide_eq_true_eq]
  subst en
  have hn : H1 p = none := I2.hok.fresh hp
  have J : Inv X pins σ (upd H1 p (.lst ((sset ns).map V.int))) { s2 with heap := s'.heap, gens := s'.gens, drawn := s'.drawn, toks := s'.toks } :=
    I2.call (ch := []) (Un.laid k hp hn) (I2.hok.laid k hp ⟨by rw [List.length_map, sizeLine_eq]; omega, out.toList, c, vals_of_ints hi, hg⟩) (by rw [g]; exact I2.bare) (fun _ z => nomatch z)
  have e : s' = { s2 with heap := s'.heap, gens := s'.gens, drawn := s'.drawn, toks := s'.toks } := by
    cases s'
    cases s2
    cases o
    rfl
  rw [e]
  exact ⟨.ref p, _, J, rfl, q1 p hn⟩
/-- len(set(xs)) -/
def tLSet (K : PySem.W.Frag) (ta : TE) : TE := fun σ H Q => ta σ H fun x H1 => ∃ (l : Addr) (ns : List Int), x = V.ref l ∧ SqL K H1 l (ns.map V.int) ∧ ns.length < 1000 ∧ Q (.int (sset ns).length) H1
theorem pe_lset {a : Expr} {p p2 q pos : Pos} (hc : X.calm = true) (hg : Gl X "len") (hm : X.mg "len" = none) (hg2 : Gl X "set") (hm2 : X.mg "set" = none) (ha : PE X a ta) (na : starEach [a] X.env = (false, eval a X.env) :: starEach [] X.env := by rfl) :
    PE X (.Call (.Name "len" p) [.Call (.Name "set" p2) [a] [] q] [] pos) (tLSet X.K ta) := by
  refine ⟨fun pins s σ H Q I h => ?_⟩
  refine Call_ (ld_blt I hg hm PySem.boot_len ?_)
  refine PyProof.Rows.callWith_builtin1 (PyProof.Rows.args_cons ?_ rfl) rfl rfl
  refine Call_ (ld_blt I hg2 hm2 PyProof.Rows.boot_set ?_)
  refine PyProof.Rows.callWith_type1 (PyProof.Rows.args_cons (thn (ha.run pins s σ H _ I h) fun v s1 ⟨x, H1, I1, r1, q1⟩ => PyProof.Rows.args_nil ?_) na) na rfl
  obtain ⟨l, ns, rfl, hq, h1, q1⟩ := q1
  cases r1
  obtain ⟨its, r, pl, hz⟩ := I1.list hq
  refine call_set_listR (I1.ok.hd hc) pl.isList (ns := ns) (by simpa using r.ints) (by unfold scanBound; omega) fun h' tk c hS hc' hk => ?_
  have ec := setR_count hS
  have I2 : Inv X pins σ H1 { s1 with heap := h', toks := tk } := I1.kept hk
  refine PyProof.Rows.args_nil ?_
  obtain ⟨o, es, ep, t, ho, hex, hd, _, _, _, _, hf, hn, _⟩ := hS
  exact call_len_set ho hex hd hf (by rw [hn]; omega) ⟨.int (sset ns).length, H1, I2.tok _, ⟨_, by rw [hn, ec]⟩, q1⟩
end
section
variable [TabC] {S S' α β γ A ρ : Type} {X : Cx} {xr : XR} {W : WX} {ss : SS X.K S} {ss' : SS X.K S'} {pos : Pos} {P : RK X.K V ρ} {e1 e2 : Expr} {p q : Pos}
theorem ee_sset {m : S → Res (List Int)} {p2 : Pos} (hm : X.mg "sorted" = none) (hm2 : X.mg "set" = none) (h : EE X xr W ss e1 (seq rInt) m) (hc : X.calm = true := by rfl) (hg : Gl X "sorted" := by rfl) (hg2 : Gl X "set" := by rfl) (na : starEach [e1] X.env = (false, eval e1 X.env) :: starEach [] X.env := by rfl) :
    EE X xr W ss (.Call (.Name "sorted" p) [.Call (.Name "set" p2) [e1] [] q] [] pos) (fre rInt) (u1 ssetR m) := by
  obtain ⟨t, pa, d⟩ := h.ex
  refine ⟨_, pe_sset hc hg hm hg2 hm2 pa na, fun F0 B F H σ s Q a hw => ?_⟩
  refine d.go a hw fun as v F1 H1 _ at1 g1 p1 hw1 => ?_
  obtain ⟨l, us, rfl, hq, ps⟩ := p1
  obtain ⟨hc, hw1⟩ := Want.grd hw1
  have hc := of_decide_eq_true hc
  refine ⟨l, as, rfl, by rw [← ps_ints ps]; exact hq, hc.1, hc.2, fun z hz => ?_⟩
  exact hw1 _ F1 _ (.newH at1.fh hz) ⟨z, _, rfl, g1.hh.free hz, upd_same, at1.fh.free hz, ints_ps _⟩
theorem ee_lset {m : S → Res (List Int)} {p2 : Pos} (hm : X.mg "len" = none) (hm2 : X.mg "set" = none) (h : EE X xr W ss e1 (seq rInt) m) (hc : X.calm = true := by rfl) (hg : Gl X "len" := by rfl) (hg2 : Gl X "set" := by rfl) (na : starEach [e1] X.env = (false, eval e1 X.env) :: starEach [] X.env := by rfl) :
    EE X xr W ss (.Call (.Name "len" p) [.Call (.Name "set" p2) [e1] [] q] [] pos) (pers rInt) (u1 lsetR m) := by
  obtain ⟨t, pa, d⟩ := h.ex
  refine ⟨_, pe_lset hc hg hm hg2 hm2 pa na, fun F0 B F H σ s Q a hw => ?_⟩
  refine d.go a hw fun as v F1 H1 _ at1 g1 p1 hw1 => ?_
  obtain ⟨l, us, rfl, hq, ps⟩ := p1
  obtain ⟨hc, hw1⟩ := Want.grd hw1
  have hc := of_decide_eq_true hc
  exact ⟨l, as, rfl, by rw [← ps_ints ps]; exact hq, hc, hw1.here at1.fh rfl⟩
omit [TabC] in
theorem rgV_rng (n : Int) : rgV 0 n = (rng 0 n.toNat).map V.int := by
  unfold rgV rng
  rw [List.map_map, Int.sub_zero]
  rfl
/-- list(range(n)) -/
def lrngR (n : Int) : Res (List Int) := guardR (decide (-(2 ^ 62) ≤ n ∧ n ≤ 16777216)) (rng 0 n.toNat)
theorem ee_listR {m : S → Res Int} {p2 : Pos} (hm : X.mg "list" = none) (hm2 : X.mg "range" = none) (h : EE X xr W ss e1 (pers rInt) m) (hc : X.calm = true := by rfl) (hg : Gl X "list" := by rfl) (hg2 : Gl X "range" := by rfl) (na : starEach [e1] X.env = (false, eval e1 X.env) :: starEach [] X.env := by rfl)
    (nb : starEach [.Call (.Name "range" p2) [e1] [] q] X.env = (false, eval (.Call (.Name "range" p2) [e1] [] q) X.env) :: starEach [] X.env := by rfl) :
    EE X xr W ss (.Call (.Name "list" p) [.Call (.Name "range" p2) [e1] [] q] [] pos) (fre rInt) (u1 lrngR m) := by
  obtain ⟨t, pa, d⟩ := h.ex
  refine ⟨_, pe_listRg hc hg hm (prg_1 hg2 hm2 pa na) nb, fun F0 B F H σ s Q a hw => ?_⟩
  refine d.go a hw fun n v F1 H1 _ at1 g1 p1 hw1 => ?_
  obtain ⟨hc, hw1⟩ := Want.grd hw1
  have hc := of_decide_eq_true hc
  refine ⟨n, p1, ⟨by omega, by omega, by omega, by omega, by omega⟩, fun z hz => ?_⟩
  rw [rgV_rng]
  exact hw1 _ F1 _ (.newH at1.fh hz) ⟨z, _, rfl, g1.hh.free hz, upd_same, at1.fh.free hz, ints_ps _⟩
/-- xs.count(e) -/
def cntR (as : List Int) (k : Int) : Res Int := .ok (as.count k : Int)
theorem ee_count {ma : S → Res (List Int)} {mk : S → Res Int} {p2 p3 : Pos} (ha : EE X xr W ss e1 (seq rInt) ma) (hk : EE X xr W ss e2 (pers rInt) mk)
    (hm : ∀ (te tk : TE), PE X e1 te → PE X e2 tk → PE X (.Call (.Attribute e1 "count" p2) [e2] [] p3) (tBM X.K "list" (rCntI X.K) te (tCons tk tNil)) := by exact fun te tk h h' => pe_bm PySem.F.plainAttrs_list PySem.F.slot_list_count PySem.F.type_list_count mt_lcount h (pa_cons h' pa_nil)) :
    EE X xr W ss (.Call (.Attribute e1 "count" p2) [e2] [] p3) (pers rInt) (b2 cntR ma mk) := by
  obtain ⟨t, pa, d⟩ := ha.ex
  obtain ⟨t', pa', d'⟩ := hk.ex
  refine ⟨_, hm t t' pa pa', fun F0 B F H σ s Q a hw => ?_⟩
  refine d.go a hw fun as v F1 H1 _ at1 g1 p1 hw1 => ?_
  obtain ⟨l, us, rfl, hq, ps⟩ := p1
  refine ⟨.inl ⟨rfl, _, hq⟩, ?_⟩
  refine d'.go at1 hw1 fun k u F2 H2 _ at2 g2 p2 hw2 => ?_
  exact ⟨l, as, k, rfl, by rw [show u = _ from p2], by rw [← ps_ints ps]; exact g2.hh.seq hq, hw2.here at2.fh rfl⟩
/-- t1, .., tn = e -/
theorem s1_unp {tg e : Expr} {R : RT X.K α} {w : α → S → S} {vs : List Nat} {m : S → Res α} (he : EE X xr W ss e (pers R) m) (ht : TJG X ss tg R w vs) (hs : swapsWithSole [tg] e pos.line X.env = pure false := by rfl) (hw : swappedStores [tg] e X.env = pure none := by rfl)
    (h1 : (assignEach [tg] X.env).map (·.2) = [assign tg X.env] := by rfl) : S1J X xr W ss (.Assign [tg] e pos) ss P (oSet w m) := by
  obtain ⟨t, p, d⟩ := he.ex
  obtain ⟨g, pg, dg⟩ := ht.ex
  refine ⟨_, ps_asg p pg hs hw h1, fun F0 B F H σ s D a h => ?_⟩
  refine d.goS a h fun y v F1 H1 _ at1 g1 p1 h => ?_
  obtain ⟨ps, _, rl, k⟩ := dg B F1 H1 σ s v y at1.r at1.fh p1
  exact k σ _ (h F1 H1 _ (.refl F1) ⟨at1.g, at1.t, rl⟩)
/-- what is not reached -/
theorem s1_dead {st : Stmt} : S1J X xr W ss st ss' P (fun _ => .no) := ⟨fun _ _ _ => False, ⟨fun _ _ _ _ _ _ h => h.elim⟩, fun _ _ _ _ _ _ _ _ h => h⟩
theorem sj_dead {st : List Stmt} : SJ X xr W ss st ss' P (fun _ => .no) := ⟨fun _ _ _ => False, ⟨fun _ _ _ _ _ _ h => h.elim⟩, fun _ _ _ _ _ _ _ _ h => h⟩
theorem ee_dead {e : Expr} {P' : RK X.K V α} : EE X xr W ss e P' (fun _ => .no) := ⟨fun _ _ _ => False, ⟨fun _ _ _ _ _ _ h => h.elim⟩, fun _ _ _ _ _ _ _ _ h => h⟩
end
end Y


set_option Elab.async false
set_option linter.all false
set_option autoImplicit false
set_option maxRecDepth 100000
set_option maxHeartbeats 2000000
/-! Y10: reckoning with the newer mirrors. -/
namespace Y
open PySem PySem.Spec PyProof.Rows L2
section
variable {S S' α β γ A ρ : Type}
@[simp] theorem oSetI_ap (g : S → Option (List α)) (w : List α → S → S) (m : S → Res α) (mi : S → Res Int) (s : S) : (oSetI g w m mi s : Out S ρ) = (m s).out fun a => (ofOpt (g s)).out fun as => (mi s).out fun i => (ixSet as i a).out fun as' => .nx (w as' s) := (rfl)
@[simp] theorem oAppPop_ap (g : S → Option (List α)) (w : List α → S → S) (g' : S → Option (List α)) (w' : List α → S → S) (mi : S → Res Int) (s : S) : (oAppPop g w g' w' mi s : Out S ρ) = (ofOpt (g s)).out fun as => (ofOpt (g' s)).out fun bs => (mi s).out fun i => (popR bs i).out fun p => (appR as p.1).out fun as' => .nx (w as' (w' p.2 s)) := (rfl)
@[simp] theorem oRem_ap (g : S → Option (List Int)) (w : List Int → S → S) (m : S → Res Int) (s : S) : (oRem g w m s : Out S ρ) = (ofOpt (g s)).out fun as => (m s).out fun k => (remR as k).out fun as' => .nx (w as' s) := (rfl)
@[simp] theorem cChain_ap (f : α → β → Res Bool) (f' : β → γ → Res Bool) (ma : S → Res α) (mb : S → Res β) (mc : S → Res γ) (s : S) : cChain f f' ma mb mc s = (ma s).bind fun a => (mb s).bind fun b => (f a b).bind fun k => if k = true then (mc s).bind fun c => f' b c else .ok false := (rfl)
@[simp] theorem sortDR_ap (as : List Int) : sortDR as = .ok (dsort as) := (rfl)
@[simp] theorem cntR_ap (as : List Int) (k : Int) : cntR as k = .ok (as.count k : Int) := (rfl)
theorem ixSet_ok {as : List α} {i : Nat} (a : α) (h : i < as.length) : ixSet as (i : Int) a = .ok (as.set i a) := by
  unfold ixSet
  have : ixN as.length (i : Int) = some i := by
    unfold ixN
    simp
    omega
  rw [this]
  rfl
theorem remR_ok {as : List Int} {k : Int} (h : k ∈ as) : remR as k = .ok (as.erase k) := by
  unfold remR
  rw [decide_eq_true h]
  rfl
theorem popR_ok {as : List α} {i : Nat} (h : i < as.length) (hb : as.length < 2 ^ 62) : popR as (i : Int) = .ok (as[i], as.eraseIdx i) := by
  unfold popR
  have : seqIndex? (i : Int) as.length = some i := by
    unfold seqIndex?
    have h1 : ¬ ((i : Nat) : Int) < 0 := by omega
    simp [h1, h]
  rw [this]
  simp [List.getElem?_eq_getElem h]
  rw [decide_eq_true (by omega)]
  rfl
theorem maxR_ok {as : List Int} {m : Int} (h1 : m ∈ as) (h2 : ∀ y ∈ as, y ≤ m) (u : Unit) : maxR (as, u) = .ok m := by
  unfold maxR
  rw [imax_spec as m h1 h2]
  rfl
theorem minR_ok {as : List Int} {m : Int} (h1 : m ∈ as) (h2 : ∀ y ∈ as, m ≤ y) (u : Unit) : minR (as, u) = .ok m := by
  unfold minR
  rw [imin_spec as m h1 h2]
  rfl
theorem lrng_ok {n : Nat} (h : n ≤ 1000000) : lrngR (n : Int) = .ok (rng 0 n) := by
  unfold lrngR
  rw [decide_eq_true (by omega)]
  rfl
theorem sset_ok {as : List Int} (h : as.length < 1000) (h2 : (sset as).length < 64) : ssetR as = .ok (sset as) := by
  unfold ssetR
  rw [decide_eq_true ⟨h, h2⟩]
  rfl
theorem lset_ok {as : List Int} (h : as.length < 1000) : lsetR as = .ok ((sset as).length : Int) := by
  unfold lsetR
  rw [decide_eq_true h]
  rfl
end
end Y


set_option Elab.async false
set_option linter.all false
set_option autoImplicit false
set_option maxRecDepth 100000
set_option maxHeartbeats 2000000
/-! Y11: lists handed on: a frozen slot is cleared, or takes a new list of its own. -/
namespace Y
open PySem PySem.Spec PyProof.Rows L2
/-- a slot is given up -/
structure Cl [TabC] {K : PySem.W.Frag} {S : Type} (ss ss' : SS K S) (c : S → S) : Prop where
  cl : ∀ {B : Hp} {acc : List Addr} {F H : Hp} {σ : St} {s : S}, ss.rel B acc F H σ s → ss'.rel B acc F H σ (c s)
def cz {α S : Type} : Option α × S → Option α × S := fun s => (none, s.2)
def cs {β S : Type} (c : S → S) : Option β × S → Option β × S := fun s => (s.1, c s.2)
/-- a slot takes a list of its own -/
structure LX [TabC] {K : PySem.W.Frag} {S α : Type} (ss ss' : SS K S) (i : Nat) (R : RT K α) (w : List α → S → S) : Prop where
  set : ∀ {B : Hp} {acc : List Addr} {F H F' H' : Hp} {σ : St} {s : S} {as : List α} {p : Addr} {vs : List V}, ss.rel B acc F H σ s → Same F H → Grow F H F' H' → B p = none → H p = none → H' p = some (.lst vs) → F' p = none → Ps R F' vs as → p ∉ acc →
    ss'.rel B acc F' H' (σ.set i (some (.ref p))) (w as s)
section
variable [TabC] {K : PySem.W.Frag} {S α β : Type} {ss ss' : SS K S} {R : RT K α} {R' : RT K β} {i : Nat}
theorem Cl.z : Cl (sI (rList R) ss) (sO R ss) cz := ⟨fun h => by
  obtain ⟨x, σ', rfl, h, t⟩ := h
  exact ⟨x, σ', rfl, t⟩⟩
theorem Cl.s {c : S → S} (h : Cl ss ss' c) : Cl (sI R' ss) (sI R' ss') (cs c) := ⟨fun r => by
  obtain ⟨x, σ', rfl, r, t⟩ := r
  exact ⟨x, σ', rfl, r, h.cl t⟩⟩
theorem Cl.o {c : S → S} (h : Cl ss ss' c) : Cl (sO R' ss) (sO R' ss') (cs c) := ⟨fun {B acc F H σ s} r => by
  obtain ⟨x, σ', rfl, r⟩ := r
  refine ⟨x, σ', rfl, ?_⟩
  show match s.1 with
    | none => _
    | some as => _
  cases q : s.1 with
  | none =>
    rw [q] at r
    exact h.cl r
  | some as =>
    rw [q] at r
    obtain ⟨p, vs, a1, a2, a3, a4, a5, a6, t⟩ := r
    exact ⟨p, vs, a1, a2, a3, a4, a5, a6, h.cl t⟩⟩
theorem LX.z {R0 : RT K (List α)} : LX (sI R0 ss) (sO R ss) 0 R wz where
  set := fun {B acc F H F' H' σ s as p vs} h sm g hb hp hp' hf hps hacc => by
    obtain ⟨x, σ', rfl, _, t⟩ := h
    exact ⟨some (.ref p), σ', rfl, p, vs, rfl, hb, hacc, hp', hf, hps, ss.grow (ss.more t fun r hr => (List.mem_cons.mp hr).elim (fun c => .inr (by rw [c]; exact hp)) .inl) sm g⟩
theorem LX.s {w : List α → S → S} (l : LX ss ss' i R w) : LX (sI R' ss) (sI R' ss') (i + 1) R (ws w) where
  set := fun {B acc F H F' H' σ s as p vs} h sm g hb hp hp' hf hps hacc => by
    obtain ⟨x, σ', rfl, h, t⟩ := h
    exact ⟨x, _, rfl, fun a q => let ⟨v, ev, hv⟩ := h a q; ⟨v, ev, R'.mono (g.ff sm) hv⟩, l.set t sm g hb hp hp' hf hps hacc⟩
theorem LX.o {w : List α → S → S} (l : LX ss ss' i R w) : LX (sO R' ss) (sO R' ss') (i + 1) R (ws w) where
  set := fun {B acc F H F' H' σ s as p vs} h sm g hb hp hp' hf hps hacc => by
    obtain ⟨x, σ', rfl, h⟩ := h
    refine ⟨x, _, rfl, ?_⟩
    show match s.1 with
      | none => _
      | some as => _
    cases q : s.1 with
    | none =>
      rw [q] at h
      exact l.set h sm g hb hp hp' hf hps hacc
    | some bs =>
      rw [q] at h
      obtain ⟨p0, vs0, b1, b2, b3, b4, b5, b6, t⟩ := h
      have ne : p ≠ p0 := fun z => by
        rw [z, b4] at hp
        cases hp
      refine ⟨p0, vs0, b1, b2, b3, g.hh.k b4, ?_, b6.mono (g.ff sm), l.set t sm g hb hp hp' hf hps fun z => (List.mem_cons.mp z).elim ne hacc⟩
      rw [g.eq p0 (by rw [b4]; exact fun z => nomatch z)]
      exact b5
end
section
variable [TabC] {S S' α β γ A ρ : Type} {X : Cx} {xr : XR} {W : WX} {ss ss2 : SS X.K S} {ss' : SS X.K S'} {pos : Pos} {P : RK X.K V ρ} {e1 e2 : Expr} {p q : Pos}
theorem sj_cl {st : List Stmt} {c : S → S} {m : S → Out S' ρ} (h : Cl ss ss2 c) (k : SJ X xr W ss2 st ss' P m) : SJ X xr W ss st ss' P (fun s => m (c s)) := by
  obtain ⟨t, p, d⟩ := k.ex
  exact ⟨t, p, fun F0 B F H σ s D a hw => d F0 B F H σ (c s) D ⟨a.g, a.t, h.cl a.r⟩ hw⟩
theorem s1_setX {i : Nat} {x : Str} {e : Expr} {R : RT X.K α} {w : List α → S → S} {m : S → Res (List α)} {pos' : Pos} (l : LX ss ss2 i R w) (he : EE X xr W ss e (fre R) m) (hN : X.N.Nodup) (hi : X.N[i]? = some x := by rfl) (hx : Loc X.env.scope x := by first | exact Or.inl rfl | exact Or.inr rfl)
    (hs : swapsWith e (some (.Name x pos')) pos.line X.env = pure false := by rfl) (hf : X.fn x = true ∨ X.env.scope.names.lookup x = some .local := by first | exact Or.inl rfl | exact Or.inr rfl) : S1J X xr W ss (.Assign [.Name x pos'] e pos) ss2 P (oSet w m) := by
  obtain ⟨t, p, d⟩ := he.ex
  refine ⟨_, ps_set hN hi hx p hs hf, fun F0 B F H σ s D a h => ?_⟩
  refine d.goS a h fun x v F1 H1 _ at1 g1 p1 hw1 => ?_
  obtain ⟨q, vs, rfl, q1, q2, q3, q4⟩ := p1
  exact hw1 F1 H1 _ (.refl F1) ⟨at1.g, at1.t, l.set a.r a.fh g1 (a.seen.free q1) q1 q2 q3 q4 (fun z => nomatch z)⟩
end
section
variable {S α β : Type}
@[simp] theorem cz_ap (a : Option α) (s : S) : cz (a, s) = (none, s) := (rfl)
@[simp] theorem cs_ap (c : S → S) (b : Option β) (s : S) : cs c (b, s) = (b, c s) := (rfl)
end
end Y
/-! ### calls with keywords -/
namespace Y
open PySem PySem.Spec PyProof.Rows L2
section
variable [TabC] {K : PySem.W.Frag} {α A ρ : Type}
/-- the arguments, and the keywords' values -/
def kpZ (R : RK K (List V) A) : RK K (List V × List V) A := ⟨fun H0 F H p a => p.1 = [] ∧ R.p H0 F H p.2 a, fun s g h => ⟨h.1, R.st s g h.2⟩, fun s h => ⟨h.1, R.pre s h.2⟩⟩
def kpA (P : RK K V α) (R : RK K (List V × List V) A) : RK K (List V × List V) (α × A) := ⟨fun H0 F H p a => ∃ v q, p = (v :: q.1, q.2) ∧ P.p H0 F H v a.1 ∧ R.p H0 F H q a.2, fun s g h => by
  obtain ⟨v, q, e, h1, h2⟩ := h
  exact ⟨v, q, e, P.st s g h1, R.st s g h2⟩, fun s h => by
  obtain ⟨v, q, e, h1, h2⟩ := h
  exact ⟨v, q, e, P.pre s h1, R.pre s h2⟩⟩
/-- what a def takes them for -/
structure KK (PR : RK K (List V × List V) A) (AR : RK K (List V) A) (n k : Nat) : Prop where
  to : ∀ H0 H F p a, PR.p H0 F H p a → p.1.length = n ∧ p.2.length = k ∧ AR.p H F H (p.1 ++ p.2) a
theorem KK.z {R : RK K (List V) A} {k : Nat} (h : HL R k) (hA : ∀ H0 H F vs a, R.p H0 F H vs a → R.p H F H vs a := by exact fun _ _ _ _ _ h => h) : KK (kpZ R) R 0 k := ⟨fun H0 H F p a q => by
  obtain ⟨p1, p2⟩ := p
  obtain ⟨q1, q2⟩ := q
  have q1 : p1 = [] := q1
  subst q1
  exact ⟨rfl, h.len _ _ _ _ _ q2, hA _ _ _ _ _ q2⟩⟩
theorem KK.a {R : RT K α} {PR : RK K (List V × List V) A} {AR : RK K (List V) A} {n k : Nat} (h : KK PR AR n k) : KK (kpA (pers R) PR) (aC (pers R) AR) (n + 1) k := ⟨fun H0 H F p a q => by
  obtain ⟨v, r, rfl, q1, q2⟩ := q
  obtain ⟨h1, h2, h3⟩ := h.to H0 H F r a.2 q2
  exact ⟨congrArg (· + 1) h1, h2, v, r.1 ++ r.2, rfl, q1, h3⟩⟩
/-- all parameters are given, the last ones by their names -/
theorem fun_kb {x qual : Str} {st : Stmt} {f : Addr} {fd : FuncData} {ps ks : List Str} {n : Nat} (F : Fun K x qual st f fd)
    (h : ∀ (kV doc pm : Value) (an : Option Addr) (cdv ct : Value) (us ws : List Value), us.length = n → ws.length = ks.length → bindArgs (PySem.W.fnOf x qual (defArgs st) (defBody st) (defScope st) .none kV doc pm an cdv ct) ⟨us, ks.zip ws⟩ = pure (ps.zip (us ++ ws))) : KBn K fd ps n ks (· ++ ·) (· ++ ·) := by
  obtain ⟨oc, od, kV, doc, pm, an, cdv, ct, osl, rfl, lk, hcd⟩ := F.ex
  exact ⟨fun s us ws _ h1 h2 => .of_eq (h kV doc pm an cdv ct us ws h1 h2), fun h1 h2 => h1.append h2⟩
end
section
variable [TabC] {X : Cx} {S α β A ρ : Type} {xr : XR} {W : WX} {ss : SS X.K S} {P : RK X.K V ρ} {pos p : Pos}
structure KW (X : Cx) (xr : XR) (W : WX) (ss : SS X.K S) (kws : List Keyword) (R : RK X.K (List V) A) (m : S → Res A) : Prop where
  ex : ∃ tk, PK X kws tk ∧ Does xr W ss tk R m
theorem kw_nil : KW X xr W ss [] aN aNil := ⟨_, pk_nil, fun F0 B F H σ s Q at0 hw => hw [] F H (.refl at0.fh) rfl⟩
theorem kw_cons {e : Expr} {kws : List Keyword} {nm : Option Str} {kpos : Pos} {P : RK X.K V α} {R : RK X.K (List V) A} {m : S → Res α} {m' : S → Res A} (h : EE X xr W ss e P m) (h' : KW X xr W ss kws R m') : KW X xr W ss (⟨nm, e, kpos⟩ :: kws) (aC P R) (aCons m m') := by
  obtain ⟨t, p, d⟩ := h.ex
  obtain ⟨t', p', d'⟩ := h'.ex
  refine ⟨_, pk_cons p p', fun F0 B F H σ s Q at0 hw => ?_⟩
  refine d.go at0 hw fun a v F1 H1 _ at1 g1 p1 hw1 => ?_
  refine d'.go at1 hw1 fun b u F2 H2 _ at2 g2 p2 hw2 => ?_
  exact hw2.here at2.fh ⟨v, u, rfl, P.st at1.fh g2 p1, R.pre g1.hh p2⟩
structure KA (X : Cx) (xr : XR) (W : WX) (ss : SS X.K S) (es : List Expr) (kws : List Keyword) (PR : RK X.K (List V × List V) A) (m : S → Res A) : Prop where
  ex : ∃ ta tk, PA X es ta ∧ PK X kws tk ∧ Does xr W ss (fun σ H Q => ta σ H fun vs H1 => tk σ H1 fun zs H2 => Q (vs, zs) H2) PR m
theorem ka_kws {kws : List Keyword} {R : RK X.K (List V) A} {m : S → Res A} (h : KW X xr W ss kws R m) : KA X xr W ss [] kws (kpZ R) m := by
  obtain ⟨t, p, d⟩ := h.ex
  refine ⟨_, _, pa_nil, p, fun F0 B F H σ s Q at0 hw => ?_⟩
  refine d F0 B F H σ s _ at0 ?_
  cases e : m s with
  | ok a =>
    rw [e] at hw
    exact fun v F' H' g q => hw ([], v) F' H' g ⟨rfl, q⟩
  | er x =>
    rw [e] at hw
    exact hw
  | no =>
    rw [e] at hw
    exact hw
theorem ka_arg {e : Expr} {es : List Expr} {kws : List Keyword} {R : RK X.K V α} {PR : RK X.K (List V × List V) A} {m : S → Res α} {m' : S → Res A} (h : EE X xr W ss e R m) (h' : KA X xr W ss es kws PR m') (hs : starEach (e :: es) X.env = (false, eval e X.env) :: starEach es X.env := by rfl) :
    KA X xr W ss (e :: es) kws (kpA R PR) (aCons m m') := by
  obtain ⟨t, p, d⟩ := h.ex
  obtain ⟨ta, tk, pa, pk, d'⟩ := h'.ex
  refine ⟨_, _, pa_cons p pa hs, pk, fun F0 B F H σ s Q at0 hw => ?_⟩
  refine d.go at0 hw fun a v F1 H1 _ at1 g1 p1 hw1 => ?_
  refine d'.go at1 hw1 (Q := fun q H2 => Q (v :: q.1, q.2) H2) fun b u F2 H2 _ at2 g2 p2 hw2 => ?_
  exact hw2.here at2.fh ⟨v, u, rfl, R.st at1.fh g2 p1, PR.pre g1.hh p2⟩
theorem run_kb {k n : Nat} {f : Addr} {fd : FuncData} {ps ks : List Str} {sp : Sp} {E : St → XK} {CX : CXT} {pins : List (Addr × Obj)} {σ : St} {H : Hp} {s : Shared} {Q : VK} {us ws : List Value} {vs zs : List V} (F : FnOk X.prog X.w X.K X.mg X.base CX k f fd ps sp) (hr : Room k X.A) (hb : KBn X.K fd ps n ks (· ++ ·) (· ++ ·)) (hx : PassesAt CX X σ (E σ))
    (I : Inv X pins σ H s) (r : Vals vs us) (rz : Vals zs ws) (l1 : vs.length = n) (l2 : zs.length = ks.length) (h : sp (vs ++ zs) H Q (E σ)) : wpAny (model X.prog X.w) X.A (call (.ref f) us (ks.zip ws)) (EP X pins σ Q) X.xe s := by
  refine wpAny_call (codeAny_mono (F.run X.A X.stack s H ⟨us, ks.zip ws⟩ (us ++ ws) (vs ++ zs) Q (E σ) hr I.env0 (hb.to s us ws I.kIn (r.length.symm.trans l1) (rz.length.symm.trans l2)) (hb.rel r rz) h) fun r s' hq => ?_)
  rcases r with e | fl
  · exact hx pins H s e s' I hq
  · cases fl with
    | ret u => exact I.after hq
    | _ => exact False.elim hq
def tCallKb (n m : Nat) (sp : Sp) (E : St → XK) (t tk : TA) : TE := fun σ H Q => t σ H fun vs H1 => tk σ H1 fun zs H2 => vs.length = n ∧ zs.length = m ∧ sp (vs ++ zs) H2 Q (E σ)
theorem pe_callKb {k n : Nat} {f : Addr} {fd : FuncData} {ps ks : List Str} {sp : Sp} {E : St → XK} {CX : CXT} {x : Str} {e : Expr} {es : List Expr} {kws : List Keyword} {t tk : TA} (F : FnOk X.prog X.w X.K X.mg X.base CX k f fd ps sp) (hr : Room k X.A) (hg : Gl X x) (hm : X.mg x = some (.ref f)) (hk : PySem.W.keepIn X.K (.ref f) = true) (hb : KBn X.K fd ps n ks (· ++ ·) (· ++ ·)) (hx : ∀ σ, PassesAt CX X σ (E σ))
    (ha : PA X (e :: es) t) (hkw : PK X kws tk) (hall : (backToKw pos (keywordEach kws X.env)).all (·.1.isSome) = true) (hks : (backToKw pos (keywordEach kws X.env)).filterMap (·.1) = ks)
    (hdb : (x == ("__debug__" : Str)) = false) (he : starEach (e :: es) X.env = (false, eval e X.env) :: starEach es X.env)
    (hpl : ((backTo pos (starEach (e :: es) X.env)).any (·.1) || (backToKw pos (keywordEach kws X.env)).any (·.1.isNone)) = false) : PE X (.Call (.Name x p) (e :: es) kws pos) (tCallKb n ks.length sp E t tk) := by
  refine ⟨fun pins s σ H Q I h => wpAny_Call_Name_kw (ld_glob I hg hm ?_ hdb)⟩
  refine PySem.W.callWith_KW (h₀ := X.base) I.ok.mod.kin hk hall (thn (ha.run pos pins s σ H _ I h) fun us s1 ⟨vs, H1, I1, r, q⟩ => ?_) hpl he
  refine thn (hkw.run pos pins s1 σ H1 _ I1 q) fun ws s2 ⟨zs, H2, I2, rz, l1, l2, q2⟩ => ⟨I2.kIn, ?_⟩
  rw [hks]
  exact run_kb F hr hb (hx σ) I2 r rz l1 l2 q2
/-- f(e, .., k = v, ..) -/
theorem ee_callKb {k n : Nat} {f : Addr} {fd : FuncData} {ps ks : List Str} {x : Str} {e : Expr} {es : List Expr} {kws : List Keyword} {AR : RK X.K (List V) A} {PR : RK X.K (List V × List V) A} {m : A → Res ρ} {ma : S → Res A} (F : FnOk X.prog X.w X.K X.mg X.base (L2.CX X.prog X.w) k f fd ps (sp AR P xr m)) (hr : Room k X.A) (hm : X.mg x = some (.ref f))
    (hk : PySem.W.keepIn X.K (.ref f) = true) (hb : KBn X.K fd ps n ks (· ++ ·) (· ++ ·)) (tk : Takes X W) (ha : KA X xr W ss (e :: es) kws PR ma) (hA : KK PR AR n ks.length) (hall : (backToKw pos (keywordEach kws X.env)).all (·.1.isSome) = true := by rfl) (hks : (backToKw pos (keywordEach kws X.env)).filterMap (·.1) = ks := by rfl) (hg : Gl X x := by rfl) (hdb : (x == ("__debug__" : Str)) = false := by decide)
    (he : starEach (e :: es) X.env = (false, eval e X.env) :: starEach es X.env := by rfl) (hpl : ((backTo pos (starEach (e :: es) X.env)).any (·.1) || (backToKw pos (keywordEach kws X.env)).any (·.1.isNone)) = false := by rfl) : EE X xr W ss (.Call (.Name x p) (e :: es) kws pos) P (cCall m ma) := by
  obtain ⟨ta, tkw, pa, pk, d⟩ := ha.ex
  refine ⟨_, pe_callKb F hr hg hm hk hb (fun σ => passAt tk σ) pa pk hall hks hdb he hpl, fun F0 B F H σ s Q a0 hw => ?_⟩
  refine d.go a0 hw (Q := fun q H2 => q.1.length = n ∧ q.2.length = ks.length ∧ sp AR P xr m (q.1 ++ q.2) H2 Q (WE W σ)) fun a vs F1 H1 _ at1 g1 p1 hw1 => ?_
  obtain ⟨h1, h2, h3⟩ := hA.to _ _ _ _ _ p1
  exact ⟨h1, h2, F1, a, at1.fh, at1.tb, h3, hw1.late g1.hh⟩
/-! ### tuples: any index; walked -/
structure TAll {K : PySem.W.Frag} {β : Type} (T : TR K α) (R : RT K β) (f : α → List β) : Prop where
  all : ∀ {H : Hp} {vs : List V} {a : α}, T.r H vs a → Ps R H vs (f a)
omit [TabC] in
theorem TAll.one {K : PySem.W.Frag} {R : RT K α} : TAll (t1 R) R (fun a => [a]) := ⟨fun h => by
  obtain ⟨v, rfl, h⟩ := h
  exact .cons h .nil⟩
omit [TabC] in
theorem TAll.c {K : PySem.W.Frag} {R : RT K α} {T : TR K β} {f : β → List α} (h : TAll T R f) : TAll (tC R T) R (fun a => a.1 :: f a.2) := ⟨fun q => by
  obtain ⟨v, r, rfl, q1, q2⟩ := q
  exact .cons q1 (h.all q2)⟩
theorem ee_tixd {T : TR X.K α} {R : RT X.K β} {f : α → List β} {e1 e2 : Expr} {ma : S → Res α} {mi : S → Res Int} (ts : TAll T R f) (ea : EE X xr W ss e1 (pers (rTup T)) ma) (ei : EE X xr W ss e2 (pers rInt) mi) (hx : PlainIx e2 := by exact fun _ _ => rfl) :
    EE X xr W ss (.Subscript e1 e2 pos) (pers R) (b2 (fun a i => ixR (f a) i) ma mi) := by
  obtain ⟨t, p, d⟩ := ea.ex
  obtain ⟨t', p', d'⟩ := ei.ex
  refine ⟨_, pe_ix ix_tup p p' hx, fun F0 B F H σ s Q a hw => ?_⟩
  refine d.go a hw fun a v F1 H1 _ at1 g1 p1 hw1 => ?_
  refine d'.go at1 hw1 fun i u F2 H2 _ at2 g2 p2 hw2 => ?_
  obtain ⟨q, vs, rfl, hq, r⟩ := p1
  obtain ⟨b, eb, hw2⟩ := Want.opt hw2
  obtain ⟨n, en, eg⟩ : ∃ n, ixN (f a).length i = some n ∧ (f a)[n]? = some b := by
    unfold atI at eb
    cases e : ixN (f a).length i with
    | none =>
      rw [e] at eb
      cases eb
    | some n =>
      rw [e] at eb
      exact ⟨n, rfl, eb⟩
  have pr := ts.all r
  obtain ⟨z, hz, rz⟩ := Paired.get2 pr eg
  have hlen : vs.length = (f a).length := Paired.length pr
  refine ⟨q, vs, i, z, rfl, p2, SqT.of (at2.fh.k ((g2.ff at1.fh).k hq)), ?_, hw2.here at2.fh (R.mono (g2.ff at1.fh) rz)⟩
  unfold atI
  rw [hlen, en]
  exact hz
end
end Y


set_option Elab.async false
set_option linter.all false
set_option autoImplicit false
set_option maxRecDepth 100000
set_option maxHeartbeats 2000000
/-! Y12: list of a range from a to b; tuples walked. -/
namespace Y
open PySem PySem.Spec PyProof.Rows L2
section
variable [TabC] {S S' α β γ A ρ : Type} {X : Cx} {xr : XR} {W : WX} {ss : SS X.K S} {ss' : SS X.K S'} {pos : Pos} {P : RK X.K V ρ} {e1 e2 : Expr} {p q : Pos}
omit [TabC] in
theorem rgV_rng2 (a b : Int) : rgV a b = (rng a (b - a).toNat).map V.int := by
  unfold rgV rng
  rw [List.map_map]
  rfl
def lrng2R (a b : Int) : Res (List Int) := guardR (decide (-(2 ^ 62) ≤ a ∧ a < 2 ^ 62 ∧ -(2 ^ 62) ≤ b ∧ b < 2 ^ 62 ∧ (b - a).toNat ≤ 2 ^ 24)) (rng a (b - a).toNat)
theorem ee_listR2 {ma mb : S → Res Int} {p2 : Pos} (hm : X.mg "list" = none) (hm2 : X.mg "range" = none) (ha : EE X xr W ss e1 (pers rInt) ma) (hb : EE X xr W ss e2 (pers rInt) mb) (hc : X.calm = true := by rfl) (hg : Gl X "list" := by rfl) (hg2 : Gl X "range" := by rfl) (na : starEach [e1, e2] X.env = (false, eval e1 X.env) :: starEach [e2] X.env := by rfl)
    (nb : starEach [e2] X.env = (false, eval e2 X.env) :: starEach [] X.env := by rfl) (hp : (backTo q (starEach [e2] X.env)).any (·.1) = false := by rfl)
    (nc : starEach [.Call (.Name "range" p2) [e1, e2] [] q] X.env = (false, eval (.Call (.Name "range" p2) [e1, e2] [] q) X.env) :: starEach [] X.env := by rfl) :
    EE X xr W ss (.Call (.Name "list" p) [.Call (.Name "range" p2) [e1, e2] [] q] [] pos) (fre rInt) (b2 lrng2R ma mb) := by
  obtain ⟨t, pa, d⟩ := ha.ex
  obtain ⟨t', pb, d'⟩ := hb.ex
  refine ⟨_, pe_listRg hc hg hm (prg_2 hg2 hm2 pa pb na nb hp) nc, fun F0 B F H σ s Q a hw => ?_⟩
  refine d.go a hw fun n v F1 H1 _ at1 g1 p1 hw1 => ?_
  refine d'.go at1 hw1 fun m u F2 H2 _ at2 g2 p2 hw2 => ?_
  obtain ⟨hc, hw2⟩ := Want.grd hw2
  have hc := of_decide_eq_true hc
  refine ⟨n, m, p1, p2, ⟨hc.1, hc.2.1, hc.2.2.1, hc.2.2.2.1, hc.2.2.2.2⟩, fun z hz => ?_⟩
  rw [rgV_rng2]
  exact hw2 _ F2 _ (.newH at2.fh hz) ⟨z, _, rfl, (g1.hh.trans g2.hh).free hz, upd_same, at2.fh.free hz, ints_ps _⟩
omit [TabC] in
theorem lrng2_ok {a b : Int} (h : -1000000 ≤ a ∧ a ≤ 1000000 ∧ -1000000 ≤ b ∧ b ≤ 1000000) : lrng2R a b = .ok (rng a (b - a).toNat) := by
  unfold lrng2R
  rw [decide_eq_true (by omega)]
  rfl
/-- a tuple, walked -/
theorem walks_tup {R : RT X.K α} {p : Addr} {vs : List V} {as : List α} {F : Hp} {N : Hp → Prop} (hq : ∀ H', N H' → ∀ F', Same F F' → Same F' H' → SqT X.K H' p vs) (ps : Ps R F vs as) : Walks R (Itt X.K p) as F N := fun i F' H' s1 s2 n => by
  have hs := hq H' n F' s1 s2
  refine ⟨fun a ha => ?_, fun hi => ⟨vs, hs, by rw [show vs.length = as.length from Paired.length ps]; exact hi⟩⟩
  obtain ⟨v, hv, r⟩ := Paired.get2 ps ha
  refine ⟨⟨vs, v, hs, hv⟩, fun x H2 y => ?_⟩
  obtain ⟨rfl, y⟩ := y
  have e : v = x := Option.some.inj (hv.symm.trans (y vs hs))
  subst e
  exact ⟨F', .refl s2, R.mono s1 r⟩
theorem ij_tup {tg e : Expr} {T : TR X.K α} {R : RT X.K β} {f : α → List β} {m : S → Res α} (ts : TAll T R f) (h : EE X xr W ss e (pers (rTup T)) m) : IJ X xr W ss tg e (kIt R) (u1 (fun a => .ok (f a)) m) := by
  obtain ⟨t, p, d⟩ := h.ex
  refine ⟨_, pi_tup p, fun F0 B F H σ s Q a hw => ?_⟩
  refine d.go a hw fun a v F1 H1 _ at1 g1 p1 hw1 => ?_
  obtain ⟨q, vs, rfl, h1, r⟩ := p1
  exact ⟨q, rfl, ⟨vs, SqT.of (at1.fh.k h1)⟩, hw1.here at1.fh (walks_tup (fun H2 _ F2 s1 s2 => SqT.of (s2.k (s1.k h1))) (ts.all r))⟩
end
end Y


set_option Elab.async false
set_option linter.all false
set_option autoImplicit false
set_option maxRecDepth 100000
set_option maxHeartbeats 2000000
/-! Y13: the making of an own exception whose __init__ says super().__init__(text), under ValueError. -/
namespace Y
open PySem PySem.Spec PyProof.Rows L2 NdefX

/-- what is known of the class at C and of its __init__ at f -/
structure SupC (P : Program) (K : PySem.W.Frag) (mg : Str → Option Value) (C f cc : Addr) (F : NF) : Prop where
  T : OexC K C
  lk : ∃ (oc : Value) (od : Option Addr) (osl : Array (Option Value)) (doc pm ctv : Value), K.lookup f = some ⟨oc, od, .func (F.fd doc pm ctv), osl⟩
  hcd : PySem.W.codeIn K (.ref F.c) F.qual = true
  cl : F.cl = [(("__class__" : Str), cc)]
  cell : ∃ (a : Value) (b : Option Addr) (c : Array (Option Value)), K.lookup cc = some ⟨a, b, .cell (some (.ref C)), c⟩
  code : ∃ (a : Value) (b : Option Addr) (vs : Array Value) (c : Array (Option Value)) (file : Str) (tf : Tok), K.lookup F.c = some ⟨a, b, .fields vs, c⟩ ∧ vs[2]? = some (.str file tf) ∧ ((P.main.file : Str) == file) = true
  sup : PySem.W.ks_superIn K C C "__init__" = some (some (.builtin "ValueError.__init__"))
  mro : PySem.W.mroIn K C (.ref C) = some true
  ve : PySem.W.subIn K (.ref C) (.type "ValueError") = some true
  any : PySem.W.nsIn K cStatics "thirdparty.any" = some none
  top : (P.main.scope.names.lookup ("super" : Str)).isSome = false
  glob : mg "super" = none

section
open PySem.W
variable {prog : Program} {w : World} {A : Around} {E : Value → Shared → Prop} {h : Heap} {g : Array GenState} {d : Drawn} {t : Nat} {os : OsState}
variable {nm q : Str} {C N : Addr} {bs bm : List Value} {hdct : Bool} {sn : List Str} {sub : List Value} {ab : Bool} {col : Option Bool} {dd : Option Addr} {k0 k1 k2 k3 k5 : Option Value}
/-- the wrapper, called -/
theorem call_mw {u e t0 : Addr} {rest : List Value} {Q : Value → Shared → Prop}
    (hC : h.get? C = some (excClassObj nm q C N bs bm hdct sn sub ab col dd k0 k1 k2 k3 k5 "ValueError.__new__")) (he : h.get? e = some (HandSPX.excO C t0)) (hu : h.get? u = some (kxs_mw "ValueError.__init__" e)) (hrest : rest.length ≤ sizeLine)
    (hq : ∀ h' t1, (∀ b o, b ≠ e → h.get? b = some o → h'.get? b = some o) → h'.get? e = some (HandSPX.excO C t1) → Q .none ⟨h', g, d, t, os⟩) :
    wpAny (model prog w) A (call (.ref u) rest) Q E ⟨h, g, d, t, os⟩ := by
  refine wpAny_call (codeAny_of_tree ?_)
  show wpAny _ A.in1 (callAny (.ref u) ⟨rest, []⟩) _ _ _
  simp only [callAny]
  refine wpAny_bind (wpAny_load hu ?_)
  simp only [kxs_mw, show (Value.type "method-wrapper" == Value.type "method" || Value.type "method-wrapper" == Value.type "builtin_function_or_method" || Value.type "method-wrapper" == Value.type "method-wrapper") = true by decide, if_true]
  refine W.KFB.if_so (by decide) ?_
  refine wpAny_bind (check_bound_init F.excBase_ValueError.toExcCallFacts hC he rfl ?_)
  refine wpAny_bind (wpAny_pure (wpAny_pure ?_))
  refine ⟨Code.quiet_builtin _ (by decide +kernel), codeAny_builtin F.excBase_ValueError.initEntry ?_⟩
  rw [Around.under_plainId F.excBase_ValueError.init.plain _]
  wp_walk
  refine hq _ h.objs.size (fun b o hb ho => ?_) ?_
  · rw [Heap.get?_update_other _ _ (Ne.symm hb)]
    exact Heap.get?_push_of_some _ ho
  · rw [Heap.get?_update_self _ (Heap.get?_push_of_some _ he) rfl]
    rfl
end

section
variable {X : Cx} {pins : List (Addr × Obj)} {σ : St} {H : Hp} {s : Shared} {C f cc a L : Addr} {F : NF} {E : Value → Shared → Prop} {txt : Str} {j : Nat} {p0 p1 p2 p3 p4 p5 : Pos}
theorem sup_exec (S : SupC X.prog X.K X.mg C f cc F) (henv : X.env = envF F f L) (hks : F.scope.names.lookup ("super" : Str) = some .globalImplicit) (hkc : F.scope.names.lookup ("__class__" : Str) = some .free) {ar : Arg} (hp : (F.params.posonlyargs ++ F.params.args).head? = some ar)
    (hka : F.scope.names.lookup ar.arg = some .local) (h0 : X.N[0]? = some ar.arg) (I : Inv X pins σ H s) (hσ : σ[0]? = some (some (.ref a))) (ha : H a = some (exo a C none)) (hline : (p2.endLine == p4.line) = true) :
    PySem.wpAt (model X.prog X.w) X.A (.func F.body X.env) (exec (.Expr (.Call (.Attribute (.Call (.Name "super" p0) [] [] p1) "__init__" p2) [.Constant (.str txt) j p3] [] p4) p5) X.env) (fun fl s' => fl = .next ∧ Inv X pins σ H s') E s := by
  obtain ⟨nm, q, N, bs, bm, sn, sub, ab, col, dd, k0, k1, k2, k3, k5, hC, hbm⟩ := S.T.cls
  obtain ⟨oc, od, osl, doc, pm, ctv, lk⟩ := S.lk
  obtain ⟨c1, c2, c3, hcell⟩ := S.cell
  obtain ⟨d1, d2, vs, d3, file, tf, hcode, hvs, hfile⟩ := S.code
  have hce : X.env.cells = [(("__class__" : Str), cc)] := by rw [henv]; exact S.cl
  have KX := I.kIn
  obtain ⟨t1, ho⟩ := exo_at I.hok ha
  have hint : interactive X.env = false := by
    unfold interactive
    rw [I.ok.kind]
    rfl
  have hp2 : methodCallPos true (.Call (.Name "super" p0) [] [] p1) X.env p2 p4 = pure p4 := by
    unfold methodCallPos
    rw [hline]
    rfl
  refine ks_wpAt_Expr_any ?_ hint (by rfl)
  refine ks_wpAt_MethodCall (pl := (do return (← importBound (.Call (.Name "super" p0) [] [] p1) X.env).getD true)) ?_ (by
    show (attributeBase (.Call (.Name "super" p0) [] [] p1) "__init__" X.env (eval (.Call (.Name "super" p0) [] [] p1) X.env) >>= fun ov => standAt p2.atName >>= fun _ => holding [ov] (calleeOf true (.Call (.Name "super" p0) [] [] p1) X.env ov "__init__") >>= fun x => methodCallPos true (.Call (.Name "super" p0) [] [] p1) X.env p2 p4 >>= fun cp => callWith cp x.1 x.2 (backTo p4 (starEach [.Constant (.str txt) j p3] X.env)) []) = _
    rw [hp2]
    rfl)
  refine ks_wpAt_super_base (env := X.env) (f := f) (cc := F.c) (ar := ar) (vs := vs) (file := file) (tf := tf) (by rw [henv]; exact hks) (by rw [henv]; exact hkc) (by decide) (by rw [henv]) (KX _ _ lk) rfl hp (by rw [henv]) (KX _ _ hcode) rfl hvs hfile S.top ?_
  obtain ⟨mb, b1, b2⟩ := I.mod.blt
  refine PySem.W.ks_loadName_global I.ok.kind (by rw [henv]; exact hks) (Calls.loadGlobal_builtin (by rw [I.ok.glob]; exact I.mod.glob.keeps I.bk) S.glob (by rw [I.ok.blt]; exact b1.keeps I.bk) ((b2 _ (by decide)).trans (show bootBuiltins "super" = some (.type "super") by decide +kernel)) ⟨rfl, ?_⟩)
  refine wpAny_loadName_free I.ok.kind (by rw [henv]; exact hkc) (by rw [hce]; rfl) ⟨_, KX _ _ hcell, rfl⟩ ?_
  obtain ⟨m, hn, hl⟩ := I.loc
  obtain ⟨u, ru, look⟩ := hl 0 ar.arg (.ref a) h0 hσ (.inl (by rw [henv]; exact hka))
  obtain rfl : u = Value.ref a := ru
  have hko : X.env.kindOf ar.arg = some .local := by rw [henv]; exact hka
  have hm : m ar.arg = some (.ref a) := by
    rcases look with ⟨_, z⟩ | ⟨z | z, _⟩
    · exact z
    · rw [hko] at z
      cases z
    · rw [hko] at z
      cases z
  refine wpAny_loadName_local I.ok.kind hko hn hm ?_
  refine PySem.ks_wpAny_isType_cls (KX _ _ hC) rfl ⟨rfl, ?_⟩
  obtain ⟨hp0, g, d, t, os⟩ := s
  refine PySem.ks_wpAny_call_super (KX _ _ hC) rfl ho rfl (fun c z => nomatch z) (PySem.W.looks_mroIn KX S.mro) fun h1 e1 k1 => ?_
  have I1 : Inv X pins σ H ⟨h1, g, d, t, os⟩ := I.kept (t' := t) k1
  have IA : PySem.W.InstAt h1 a _ C none := ⟨k1 _ _ ho, rfl, rfl, trivial⟩
  have hsup := S.sup
  cases hc : PySem.W.clsIn X.K C with
  | none => unfold PySem.W.ks_superIn at hsup; rw [hc] at hsup; cases hsup
  | some cd =>
    unfold PySem.W.ks_superIn at hsup
    rw [hc] at hsup
    refine PySem.W.kxs_getMethod (K := X.K) PySem.W.kxs_ValueError e1 (PySem.W.looks_opaque I1.kIn S.any) (l₀ := cd.mro) ?_ rfl I1.kIn hsup (IA.type.andThen (PySem.W.looks_subIn I1.kIn S.ve)) (PySem.W.ks_ne I1.kIn IA hc) (by decide) ?_
    · exact fun A Q E s k q => wpAny_bind ((PySem.W.looks_clsIn I1.kIn hc) A _ E s k (wpAny_pure q))
    · have k2 : ∀ b o, h1.get? b = some o → (h1.push (PySem.W.kxs_mw "ValueError.__init__" a)).get? b = some o := fun b o e => Heap.get?_push_of_some _ e
      have I2 : Inv X pins σ H ⟨h1.push (PySem.W.kxs_mw "ValueError.__init__" a), g, d, t + 1 + 1, os⟩ := I1.kept (t' := t + 1 + 1) k2
      have hu : (h1.push (PySem.W.kxs_mw "ValueError.__init__" a)).get? h1.objs.size = some (PySem.W.kxs_mw "ValueError.__init__" a) := Heap.get?_push_at rfl rfl
      refine PySem.W.kxs_callWith (i := "ValueError.__init__") (x := a) (by rw [henv]; rfl) ?_
      refine Calls.evalArgs_plain (PyProof.Rows.args_cons (Calls.Constant_str (PyProof.Rows.args_nil ⟨hu, ?_⟩)) rfl)
      refine call_mw (I2.kIn _ _ hC) (k2 _ _ (k1 _ _ ho)) hu (show 1 ≤ sizeLine by decide) fun h' t2 k hx => ?_
      have J := I2.write (t' := t + 1 + 1) (x := a) (e := a) (o := exo a C none) (by rw [ha]; exact True.intro) (.inl rfl) k ⟨_, hx⟩ (exo_ok hx)
      have eu : upd H a (exo a C none) = H := by
        funext b
        by_cases hb : b = a
        · rw [hb, upd_same, ha]
        · rw [upd_ne hb]
      rw [eu] at J
      exact ⟨rfl, J⟩
end
section
variable {CX : CXT} {P : Program} {w : World} {K : PySem.W.Frag} {mg : Str → Option Value} {base : Heap} {C f cc : Addr} {F : NF} {N ps : List Str} {k : Nat} {sp : Sp} {oc : Value} {od : Option Addr} {osl : Array (Option Value)} {doc pm ctv : Value} {rest : List Stmt} {txt : Str} {j : Nat} {p0 p1 p2 p3 p4 p5 : Pos}
/-- the __init__'s promise, by what follows the call of super -/
theorem fn_sup (S : SupC P K mg C f cc F) (lk : K.lookup f = some ⟨oc, od, .func (F.fd doc pm ctv), osl⟩) (sc : NScope N ps ["__class__"] F.scope) (len : ∀ vs H Q E, sp vs H Q E → vs.length = ps.length)
    (hb : F.body = .Expr (.Call (.Attribute (.Call (.Name "super" p0) [] [] p1) "__init__" p2) [.Constant (.str txt) j p3] [] p4) p5 :: rest)
    (hline : (p2.endLine == p4.line) = true) (hks : F.scope.names.lookup ("super" : Str) = some .globalImplicit) {ar : Arg} (hp : (F.params.posonlyargs ++ F.params.args).head? = some ar) (hka : F.scope.names.lookup ar.arg = some .local) (h0 : N[0]? = some ar.arg)
    (hsp : ∀ vs H Q E, sp vs H Q E → ∃ (a : Addr) (us : List V), vs = .ref a :: us ∧ H a = some (exo a C none))
    (hbody : ∀ (A : Around) (outer : List Env) (s : Shared) (H : Hp) (vs : List V) (Q : VK) (E : XK), Room k (A.deeper (envF F f s.heap.objs.size)) → sp vs H Q E →
      ∃ t, PSs (ncx CX P w K mg base N F f A outer s H E) rest t ∧ t { nx := fun _ H' => Q .non H', rt := Q } (startF N vs [none]) H) : FnOk P w K mg base CX (k + 1) f (F.fd doc pm ctv) ps sp := by
  refine ⟨len, fun A outer s H args us vs Q E hr e0 hbd r hspv => ?_⟩
  have hl := len _ _ _ _ hspv
  have KX : K.In s.heap := e0.mod.kin.keeps fun b o e => (e0.bs b o e).1
  have lim : s.heap.NoLimit := e0.mod.nolimit.keeps fun b o e => (e0.bs b o e).1
  obtain ⟨c1, c2, c3, hcell⟩ := S.cell
  have Ce : CellsAt F.cl ["__class__"] [none] s.heap H := by
    rw [S.cl]
    have one : ∀ {y : Str} {c : Addr}, [(("__class__" : Str), cc)].lookup y = some c → y = "__class__" ∧ c = cc := fun {y c} e => by
      by_cases h : y = "__class__"
      · subst h
        simp [List.lookup] at e
        exact ⟨rfl, e.symm⟩
      · have : (y == ("__class__" : Str)) = false := by simpa using h
        simp [List.lookup, this] at e
    refine ⟨rfl, fun y c e => ?_, fun x y c e e' => (one e).1.trans (one e').1.symm, fun i y e => ?_⟩
    · obtain ⟨_, rfl⟩ := one e
      exact ⟨(e0.bs _ _ (e0.mod.kin _ _ hcell)).2, _, _, KX _ _ hcell, rfl⟩
    · cases i with
      | zero =>
        simp at e
        subst e
        exact ⟨cc, by simp [List.lookup], fun v z => by simp at z⟩
      | succ i => simp at e
  refine ks_codeAny_call_defAt (fd := F.fd doc pm ctv) (body := F.body) (binds := ps.zip us) hr.depth (KX _ _ lk) rfl lim (PySem.W.codeRec_of KX S.hcd) rfl hbd (fun x hx => sc.nocell x hx) (fun ⟨n, _⟩ hy => sc.par n (List.of_mem_zip hy).1) (fun h₁ hns kp => ?_) sc.co sc.gen sc.kind
  obtain ⟨t, ht, hq⟩ := hbody A outer s H vs Q E (hr.deeper _) hspv
  have I : Inv (ncx CX P w K mg base N F f A outer s H E) [] (startF N vs [none]) H { s with heap := h₁, toks := s.toks + (ps.zip us).length } := inv_startN sc hr.hd e0 hl r Ce hns kp
  obtain ⟨a, us', rfl, ha⟩ := hsp _ _ _ _ hspv
  rw [hb]
  show PySem.wpAt _ _ (.func _ (envF F f s.heap.objs.size)) _ _ _ _
  refine ks_wpAt_execs_cons ?_
  refine ks_wpAt_mono (hb ▸ sup_exec (X := ncx CX P w K mg base N F f A outer s H E) S rfl hks (sc.frk _ (by simp)) hp hka h0 I rfl ha hline) (fun fl s' hs => ?_) (fun _ _ z => z)
  obtain ⟨rfl, J⟩ := hs
  refine wpAt_of_wpAny ?_
  refine wpAny_mono (ht.run [] s' (startF N (.ref a :: us') [none]) H _ J hq) (fun fl s' hs => ?_) fun e s' hs => hs
  have fin : ∀ {σ' : L2.St} {H' : Hp} {v : V} {u : Value}, Inv (ncx CX P w K mg base N F f A outer s H E) [] σ' H' s' → L2.RelV v u → Q v H' → CE outer P w H s Q u s' :=
    fun {σ' H' v u} J rv q => ⟨v, H', J.os, J.bare, J.base, J.hok, rv, q⟩
  cases fl with
  | ret u =>
    obtain ⟨v, σ', H', J, rv, q⟩ := hs
    exact fin J rv q
  | next =>
    obtain ⟨σ', H', J, q⟩ := hs
    exact fin (v := V.non) (u := Value.none) J rfl q
  | brk =>
    obtain ⟨_, _, _, q⟩ := hs
    exact False.elim q
  | cont =>
    obtain ⟨_, _, _, q⟩ := hs
    exact False.elim q
end
end Y


set_option Elab.async false
set_option linter.all false
set_option autoImplicit false
set_option maxRecDepth 100000
set_option maxHeartbeats 2000000
/-! Y14: raising and catching the program's own exceptions. -/
namespace Y
open PySem PySem.Spec PyProof.Rows L2 NdefX

/-! ### how the exceptions lie -/
def Exn.k : Exn → Nat
  | .num _ => 0
  | .link _ => 1
  | .news _ => 2
  | .plan _ => 3
  | .bound _ => 4
  | .noplan _ => 5
  | .text _ => 6
def Exn.fld : Exn → Str
  | .num _ => "number"
  | .link _ => "link"
  | .news _ => "link"
  | .plan _ => "plan"
  | .bound _ => "link"
  | .noplan _ => "witness"
  | .text _ => "line"
def optV : Option Int → V
  | none => .non
  | some n => .int n
/-- what the attribute holds -/
def xval (e : Exn) (H H' : Hp) (v : V) : Prop := match e with
  | .num n => v = .int n
  | .link n => v = .int n
  | .text n => v = .int n
  | .news o => v = optV o
  | .bound o => v = optV o
  | .plan l => ∃ q, v = .ref q ∧ H q = none ∧ H' q = some (.lst (l.map V.int))
  | .noplan l => ∃ q, v = .ref q ∧ H q = none ∧ H' q = some (.lst (l.map V.int))
theorem xval.pre {e : Exn} {H H1 H' : Hp} {v : V} (s : Same H H1) (h : xval e H1 H' v) : xval e H H' v := by
  cases e with
  | num n => exact h
  | link n => exact h
  | news o => exact h
  | bound o => exact h
  | text n => exact h
  | plan l =>
    obtain ⟨q, e, h1, h2⟩ := h
    exact ⟨q, e, s.free h1, h2⟩
  | noplan l =>
    obtain ⟨q, e, h1, h2⟩ := h
    exact ⟨q, e, s.free h1, h2⟩
/-- xc: where the classes stand -/
def xrOf (xc : Nat → Addr) : XR := ⟨fun e cls d H H' => cls = .ref (xc e.k) ∧ ∃ (dd : Addr) (v : V), d = some dd ∧ H dd = none ∧ H' dd = some (.xd [(e.fld, v)]) ∧ xval e H H' v, fun {e c d H H1 H'} s h => by
  obtain ⟨h1, dd, v, h2, h3, h4, h5⟩ := h
  exact ⟨h1, dd, v, h2, s.free h3, h4, h5.pre s⟩⟩

/-! ### what is known of a class -/
structure ExT (P : Program) (K : PySem.W.Frag) (mg : Str → Option Value) (x fld : Str) (C f : Addr) (qual : Str) (st : Stmt) : Prop where
  at_ : mg x = some (.ref C)
  ex : ∃ (cc c : Addr), SupC P K mg C f cc ⟨"__init__", qual, defArgs st, defBody st, defScope st, [("__class__", cc)], c⟩
  iC : PySem.W.findIn K (.ref C) "__init__" = some (some (.ref f))
  tI : PySem.W.typeIn K (.ref f) = some (.type "function")
  no : PySem.W.findIn K (.ref C) fld = some none
  xf : XfC K C
/-- an __init__ that keeps its argument -/
def spI (C : Addr) (fld : Str) : Sp := fun vs H Q _ => ∃ (a : Addr) (v : V), vs = [.ref a, v] ∧ H a = some (exo a C none) ∧ ∀ dx, H dx = none → dx ≠ a → Q .non (upd (upd H dx (exd dx [(fld, v)])) a (exo a C (some dx)))
/-- .. that keeps a list of its items -/
def spL (K : PySem.W.Frag) (C : Addr) (fld : Str) : Sp := fun vs H Q _ => ∃ (a l : Addr) (xs : List V), vs = [.ref a, .ref l] ∧ H a = some (exo a C none) ∧ SqL K H l xs ∧
  ∀ q dx, H q = none → H dx = none → q ≠ a → dx ≠ a → dx ≠ q → Q .non (upd (upd (upd H q (.lst xs)) dx (exd dx [(fld, .ref q)])) a (exo a C (some dx)))
section
variable {CX : CXT} {P : Program} {w : World} {K : PySem.W.Frag} {mg : Str → Option Value} {base : Heap} {x fld qual y : Str} {C f : Addr} {st : Stmt}
/-- the shapes of the two kinds of __init__ -/
structure ShB (st : Stmt) (qual y : Str) : Prop where
  sc : NScope ["self", y, "__class__"] ["self", y] ["__class__"] (defScope st)
  sup : (defScope st).names.lookup ("super" : Str) = some .globalImplicit
  par : ∃ ar, ((defArgs st).posonlyargs ++ (defArgs st).args).head? = some ar ∧ ar.arg = "self"
  bind : ∀ (cl : List (Str × Addr)) (kV doc pm ctv : Value) (an : Option Addr) (c : Addr) (us : List Value), us.length = 2 → bindArgs (PySem.W.fnX "__init__" qual (defArgs st) (defBody st) (defScope st) cl .none kV doc pm an (.ref c) ctv) ⟨us, []⟩ = pure ([("self" : Str), y].zip us)
  db : (y == ("__debug__" : Str)) = false
  cb : (y == ("__classdict__" : Str)) = false
structure ShI (st : Stmt) (qual y fld : Str) : Prop where
  b : ShB st qual y
  body : ∃ (txt : Str) (j : Nat) (p0 p1 p2 p3 p4 p5 p6 p7 p8 p9 : Pos), defBody st = [.Expr (.Call (.Attribute (.Call (.Name "super" p0) [] [] p1) "__init__" p2) [.Constant (.str txt) j p3] [] p4) p5, .Assign [.Attribute (.Name "self" p6) fld p7] (.Name y p8) p9] ∧ (p2.endLine == p4.line) = true
structure ShL (st : Stmt) (qual y fld : Str) : Prop where
  b : ShB st qual y
  lst : (defScope st).names.lookup ("list" : Str) = some .globalImplicit
  body : ∃ (txt : Str) (j : Nat) (p0 p1 p2 p3 p4 p5 p6 p7 p8 p9 q0 q1 : Pos), defBody st = [.Expr (.Call (.Attribute (.Call (.Name "super" p0) [] [] p1) "__init__" p2) [.Constant (.str txt) j p3] [] p4) p5, .Assign [.Attribute (.Name "self" p6) fld p7] (.Call (.Name "list" q0) [.Name y p8] [] q1) p9] ∧ (p2.endLine == p4.line) = true
theorem fn_I (T : ExT P K mg x fld C f qual st) (h : ShI st qual y fld) : ∃ fd, FnOk P w K mg base CX 1 f fd ["self", y] (spI C fld) ∧ Binds K fd ["self", y] [] := by
  obtain ⟨cc, c, S⟩ := T.ex
  obtain ⟨oc, od, osl, doc, pm, ctv, lk⟩ := S.lk
  obtain ⟨txt, j, p0, p1, p2, p3, p4, p5, p6, p7, p8, p9, hb, hline⟩ := h.body
  obtain ⟨ar, har, hs⟩ := h.b.par
  refine ⟨_, fn_sup S lk h.b.sc (fun vs H Q E z => ?_) hb hline h.b.sup har (by rw [hs]; exact h.b.sc.par _ (by simp)) (by rw [hs]; rfl) (fun vs H Q E z => ?_) (fun A outer s H vs Q E hr z => ?_), .all fun us hl => h.b.bind _ _ _ _ _ _ _ us hl⟩
  · obtain ⟨a, v, rfl, _⟩ := z
    rfl
  · obtain ⟨a, v, rfl, ha, _⟩ := z
    exact ⟨a, _, rfl, ha⟩
  · obtain ⟨a, v, rfl, ha, hq⟩ := z
    refine ⟨_, pss_one (ps_ost (pv 0 (by rfl) (.inl (h.b.sc.par _ (by simp)))) (pv 1 (by rfl) (.inl (h.b.sc.par _ (by simp))) h.b.db h.b.cb)), ?_⟩
    exact ⟨v, rfl, _, rfl, a, C, rfl, S.T, T.no, .inl ⟨ha, fun dx h1 h2 => hq dx h1 h2⟩⟩
theorem fn_L (T : ExT P K mg x fld C f qual st) (h : ShL st qual y fld) (hm : mg "list" = none) : ∃ fd, FnOk P w K mg base CX 1 f fd ["self", y] (spL K C fld) ∧ Binds K fd ["self", y] [] := by
  obtain ⟨cc, c, S⟩ := T.ex
  obtain ⟨oc, od, osl, doc, pm, ctv, lk⟩ := S.lk
  obtain ⟨txt, j, p0, p1, p2, p3, p4, p5, p6, p7, p8, p9, q0, q1, hb, hline⟩ := h.body
  obtain ⟨ar, har, hs⟩ := h.b.par
  refine ⟨_, fn_sup S lk h.b.sc (fun vs H Q E z => ?_) hb hline h.b.sup har (by rw [hs]; exact h.b.sc.par _ (by simp)) (by rw [hs]; rfl) (fun vs H Q E z => ?_) (fun A outer s H vs Q E hr z => ?_), .all fun us hl => h.b.bind _ _ _ _ _ _ _ us hl⟩
  · obtain ⟨a, l, xs, rfl, _⟩ := z
    rfl
  · obtain ⟨a, l, xs, rfl, ha, _⟩ := z
    exact ⟨a, _, rfl, ha⟩
  · obtain ⟨a, l, xs, rfl, ha, hl, hq⟩ := z
    refine ⟨_, pss_one (ps_ost (pv 0 (by rfl) (.inl (h.b.sc.par _ (by simp)))) (pe_callTy call_list_of (show _ = _ from h.lst) hm (by decide +kernel) (pa_cons (pv 1 (by rfl) (.inl (h.b.sc.par _ (by simp))) h.b.db h.b.cb) pa_nil))), ?_⟩
    refine ⟨_, rfl, l, xs, rfl, .inl hl, fun q hn => ?_⟩
    have hqa : q ≠ a := fun z => by
      rw [z, ha] at hn
      cases hn
    refine ⟨_, rfl, a, C, rfl, S.T, T.no, .inl ⟨by rw [upd_ne (Ne.symm hqa)]; exact ha, fun dx h1 h2 => ?_⟩⟩
    have hdq : dx ≠ q := fun z => by
      rw [z, upd_same] at h1
      cases h1
    rw [upd_ne hdq] at h1
    exact hq q dx hn h1 hqa h2 hdq
end

/-! ### raise -/
/-- class C, its __init__ keeping sp, gives the exception mk -/
structure Gv [TabC] {K : PySem.W.Frag} {α : Type} (xr : XR) (C : Addr) (sp : Sp) (Pa : RK K V α) (mk : α → Exn) : Prop where
  gv : ∀ (H0 F1 H1 : Hp) (v : V) (y : α) (a : Addr) (Q : XK), Same F1 H1 → Pa.p H0 F1 H1 v y → H1 a = none → (∀ d H', SameT H1 H' → xr.p (mk y) (.ref C) d H1 H' → Q (.ref C) d H') →
    sp [.ref a, v] (upd H1 a (exo a C none)) (fun v' H2 => v' = .non ∧ ∃ (d : Addr) (fs : List (Str × V)), H2 a = some (exo a C (some d)) ∧ H2 d = some (exd d fs) ∧ H1 d = none ∧ Q (.ref C) (some d) (upd (del H2 a) d (.xd fs))) (fun _ _ _ => False)
section
variable [TabC] {K : PySem.W.Frag} {α : Type} {xc : Nat → Addr} {C : Addr} {fld : Str} {Pa : RK K V α} {mk : α → Exn}
theorem gv_I (hC : ∀ y, C = xc (mk y).k) (hf : ∀ y, (mk y).fld = fld) (hv : ∀ H0 F H H' v y, Pa.p H0 F H v y → xval (mk y) H H' v) : Gv (xrOf xc) C (spI C fld) Pa mk := ⟨fun H0 F1 H1 v y a Q _ hp ha hq => by
  refine ⟨a, v, rfl, upd_same, fun dx h1 h2 => ?_⟩
  have h3 : H1 dx = none := by rw [upd_ne h2] at h1; exact h1
  refine ⟨rfl, dx, [(fld, v)], upd_same, by rw [upd_ne h2]; exact upd_same, h3, hq _ _ (.of fun b o e => ?_) ?_⟩
  · have ba : b ≠ a := fun z => by rw [z, ha] at e; cases e
    have bd : b ≠ dx := fun z => by rw [z, h3] at e; cases e
    rw [upd_ne bd, del_ne ba, upd_ne ba, upd_ne bd, upd_ne ba]
    exact e
  · refine ⟨by rw [← hC], dx, v, rfl, h3, ?_, hv H0 F1 H1 _ v y hp⟩
    rw [hf]
    exact upd_same⟩
theorem gv_L {mk : List Int → Exn} (hC : ∀ y, C = xc (mk y).k) (hf : ∀ y, (mk y).fld = fld) (hv : ∀ y H H' q, H q = none → H' q = some (.lst (y.map V.int)) → xval (mk y) H H' (.ref q)) : Gv (xrOf xc) C (spL K C fld) (seq (K := K) rInt) mk := ⟨fun H0 F1 H1 v y a Q _ hp ha hq => by
  obtain ⟨p, vs, rfl, h1, ps⟩ := hp
  refine ⟨a, p, vs, rfl, upd_same, Same.seq (same_new ha) h1, fun q dx hn h2 qa da dq => ?_⟩
  have h3 : H1 dx = none := by rw [upd_ne da] at h2; exact h2
  have h4 : H1 q = none := by rw [upd_ne qa] at hn; exact hn
  refine ⟨rfl, dx, [(fld, .ref q)], upd_same, by rw [upd_ne da]; exact upd_same, h3, hq _ _ (.of fun b o e => ?_) ?_⟩
  · have ba : b ≠ a := fun z => by rw [z, ha] at e; cases e
    have bd : b ≠ dx := fun z => by rw [z, h3] at e; cases e
    have bq : b ≠ q := fun z => by rw [z, h4] at e; cases e
    rw [upd_ne bd, del_ne ba, upd_ne ba, upd_ne bd, upd_ne bq, upd_ne ba]
    exact e
  · refine ⟨by rw [← hC], dx, .ref q, rfl, h3, ?_, hv y H1 _ q h4 ?_⟩
    · rw [hf]
      exact upd_same
    · rw [upd_ne (Ne.symm dq), del_ne qa, upd_ne qa, upd_ne (Ne.symm dq), upd_same, ps_ints ps]⟩
end
def oRaise {S S' α ρ : Type} (mk : α → Exn) (m : S → Res α) : S → Out S' ρ := fun s => (m s).out fun a => .er (mk a)
section
variable [TabC] {X : Cx} {S S' S2 α β ρ : Type} {xr : XR} {W : WX} {ss : SS X.K S} {ss' : SS X.K S'} {P : RK X.K V ρ}
theorem s1_raise {x fld qual y : Str} {e : Expr} {p pos pos' : Pos} {C f : Addr} {st : Stmt} {fd : FuncData} {sp : Sp} {Pa : RK X.K V α} {mk : α → Exn} {m : S → Res α} (T : ExT X.prog X.K X.mg x fld C f qual st) (F1 : FnOk X.prog X.w X.K X.mg X.base (L2.CX X.prog X.w) 1 f fd ["self", y] sp)
    (hb : Binds X.K fd ["self", y] []) (gv : Gv xr C sp Pa mk) (hr : Room 2 X.A) (tk : Takes X W) (he : EE X xr W ss e Pa m) (hc : X.calm = true := by rfl) (hg : Gl X x := by rfl) (hdb : (x == ("__debug__" : Str)) = false := by decide)
    (hs : starEach [e] X.env = (false, eval e X.env) :: starEach [] X.env := by rfl) (hpl : (backTo pos (starEach [] X.env)).any (·.1) = false := by rfl) : S1J X xr W ss (.Raise (some (.Call (.Name x p) [e] [] pos)) none pos') ss' P (oRaise mk m) := by
  obtain ⟨t, pe, d⟩ := he.ex
  obtain ⟨cc, c, SC⟩ := T.ex
  refine ⟨_, ps_raise hc tk (pmk_oex SC.T T.iC T.tI F1 hr hb .nil passL hg T.at_ (pa_cons pe pa_nil hs) hdb hs hpl), fun F0 B F H σ s D a h => ?_⟩
  refine d.goS a h fun y v F1 H1 _ at1 g1 p1 hw1 => ?_
  refine ⟨by show 1 ≤ 1000; decide, fun a ha => ?_⟩
  exact gv.gv H F1 H1 v y a (fun cls d H2 => W cls d σ H2) at1.fh p1 ha fun dd H' sm q => hw1 (.ref C) dd σ H' (at1.g.ht.trans sm) (xr.pre at1.seen q)
/-- raise X(e) by the class's facts: X keeps what it is given -/
theorem s1_raiseI {xc : Nat → Addr} {x fld qual y : Str} {e : Expr} {p pos pos' : Pos} {C f : Addr} {st : Stmt} {Pa : RK X.K V α} {mk : α → Exn} {m : S → Res α} (T : ExT X.prog X.K X.mg x fld C f qual st) (h : ShI st qual y fld) (hC : ∀ y, C = xc (mk y).k) (hf : ∀ y, (mk y).fld = fld)
    (hv : ∀ H0 F H H' v y, Pa.p H0 F H v y → xval (mk y) H H' v) (hr : Room 2 X.A) (tk : Takes X W) (he : EE X (xrOf xc) W ss e Pa m) (hc : X.calm = true := by rfl) (hg : Gl X x := by rfl) (hdb : (x == ("__debug__" : Str)) = false := by decide)
    (hs : starEach [e] X.env = (false, eval e X.env) :: starEach [] X.env := by rfl) (hpl : (backTo pos (starEach [] X.env)).any (·.1) = false := by rfl) : S1J X (xrOf xc) W ss (.Raise (some (.Call (.Name x p) [e] [] pos)) none pos') ss' P (oRaise mk m) := by
  obtain ⟨fd, F1, hb⟩ := fn_I (CX := L2.CX X.prog X.w) (w := X.w) (base := X.base) T h
  exact s1_raise T F1 hb (gv_I hC hf hv) hr tk he hc hg hdb hs hpl
/-- .. a copy of the list that it is given -/
theorem s1_raiseL {xc : Nat → Addr} {x fld qual y : Str} {e : Expr} {p pos pos' : Pos} {C f : Addr} {st : Stmt} {mk : List Int → Exn} {m : S → Res (List Int)} (T : ExT X.prog X.K X.mg x fld C f qual st) (h : ShL st qual y fld) (hl : X.mg "list" = none) (hC : ∀ y, C = xc (mk y).k) (hf : ∀ y, (mk y).fld = fld)
    (hv : ∀ y H H' q, H q = none → H' q = some (.lst (y.map V.int)) → xval (mk y) H H' (.ref q)) (hr : Room 2 X.A) (tk : Takes X W) (he : EE X (xrOf xc) W ss e (seq rInt) m) (hc : X.calm = true := by rfl) (hg : Gl X x := by rfl) (hdb : (x == ("__debug__" : Str)) = false := by decide)
    (hs : starEach [e] X.env = (false, eval e X.env) :: starEach [] X.env := by rfl) (hpl : (backTo pos (starEach [] X.env)).any (·.1) = false := by rfl) : S1J X (xrOf xc) W ss (.Raise (some (.Call (.Name x p) [e] [] pos)) none pos') ss' P (oRaise mk m) := by
  obtain ⟨fd, F1, hb⟩ := fn_L (CX := L2.CX X.prog X.w) (w := X.w) (base := X.base) T h hl
  exact s1_raise T F1 hb (gv_L hC hf hv) hr tk he hc hg hdb hs hpl

/-! ### try -/
def oTry (mb : S → Out S' ρ) (cat : Exn → Bool) (h : Exn → Res ρ) : S → Out S' ρ := fun s => match mb s with
  | .er e => if cat e = true then (h e).out .rt else .er e
  | .nx s' => .nx s'
  | .rt r => .rt r
  | .no => .no
/-- the suite, from a state that knows the exception alone -/
def oSu (ms : S → Out S2 ρ) (w : Exn → S → S) (bot : S) : Exn → Res ρ := fun e => match ms (w e bot) with
  | .rt r => .ok r
  | _ => .no
structure Bot [TabC] {K : PySem.W.Frag} {S : Type} (ss : SS K S) (n : Nat) (bot : S) : Prop where
  b : ∀ (B : Hp) (acc : List Addr) (F H : Hp) (σ : St), σ.length = n → ss.rel B acc F H σ bot
theorem Bot.n {K : PySem.W.Frag} : Bot (sN (K := K)) 0 () := ⟨fun B acc F H σ h => List.eq_nil_of_length_eq_zero h⟩
theorem Bot.i {K : PySem.W.Frag} {S α : Type} {R : RT K α} {ss : SS K S} {n : Nat} {b : S} (h : Bot ss n b) : Bot (sI R ss) (n + 1) (none, b) := ⟨fun B acc F H σ hl => by
  cases σ with
  | nil => cases hl
  | cons x σ => exact ⟨x, σ, rfl, fun a z => (by cases z), h.b B acc F H σ (by simpa using hl)⟩⟩
theorem Bot.o {K : PySem.W.Frag} {S α : Type} {R : RT K α} {ss : SS K S} {n : Nat} {b : S} (h : Bot ss n b) : Bot (sO R ss) (n + 1) (none, b) := ⟨fun B acc F H σ hl => by
  cases σ with
  | nil => cases hl
  | cons x σ => exact ⟨x, σ, rfl, h.b B acc F H σ (by simpa using hl)⟩⟩
/-- .. as it stands for good in an except suite -/
def xper (e : Exn) (H : Hp) (v : V) : Prop := match e with
  | .num n => v = .int n
  | .link n => v = .int n
  | .text n => v = .int n
  | .news o => v = optV o
  | .bound o => v = optV o
  | .plan l => ∃ q, v = .ref q ∧ H q = some (.lst (l.map V.int))
  | .noplan l => ∃ q, v = .ref q ∧ H q = some (.lst (l.map V.int))
omit [TabC] in
theorem xper.mono {e : Exn} {H H' : Hp} {v : V} (s : Same H H') (h : xper e H v) : xper e H' v := by
  cases e with
  | num n => exact h
  | link n => exact h
  | news o => exact h
  | bound o => exact h
  | text n => exact h
  | plan l =>
    obtain ⟨q, e, h⟩ := h
    exact ⟨q, e, s.k h⟩
  | noplan l =>
    obtain ⟨q, e, h⟩ := h
    exact ⟨q, e, s.k h⟩
omit [TabC] in
/-- the exception a, of class cls, with the dict d -/
def rErr {K : PySem.W.Frag} (xc : Nat → Addr) (a : Addr) (cls : Value) (d : Option Addr) : RT K Exn := ⟨fun H v e => v = .ref a ∧ cls = .ref (xc e.k) ∧ ∃ (dd : Addr) (u : V), d = some dd ∧ H dd = some (.xd [(e.fld, u)]) ∧ xper e H u, fun s h => by
  obtain ⟨h1, h2, dd, u, h3, h4, h5⟩ := h
  exact ⟨h1, h2, dd, u, h3, s.k h4, h5.mono s⟩⟩
theorem s1_try {xc : Nat → Addr} {x n : Str} {c : Value} {i : Nat} {body suite : List Stmt} {b₀ : Stmt} {np pos pos' : Pos} {mb : S → Out S' ρ} {ms : S → Out S2 ρ} {cat : Exn → Bool} {bot : S} {g : S → Option Exn} {w : Exn → S → S} {ss2 : Addr → Value → Option Addr → SS X.K S} {ss3 : Addr → Value → Option Addr → SS X.K S2} (hc : Names X x c) (tk : Takes X W)
    (hcat : ∀ e : Exn, PySem.W.exmOne X.K (.ref (xc e.k)) c = some (cat e))
    (hb : ∀ (W : WX) (pn : List (Addr × Obj)) (xe : Value → Shared → Prop), Takes (X.tr pn xe) W → PassesOwn (model X.prog X.w) X.A X.env xe → SJ (X.tr pn xe) (xrOf xc) W ss body ss' P mb)
    (bt : ∀ a cls d, Bot (ss2 a cls d) X.N.length bot) (l : ∀ a cls d, LI (ss2 a cls d) i (rErr xc a cls d) g w)
    (hsu : ∀ (a : Addr) (oe : Obj) (cls : Value) (d : Option Addr) (pn : List (Addr × Obj)), Zc cls d oe → (∃ vs, oe.data = .fields vs) → SJ (X.suite a ((a, oe) :: pn)) (xrOf xc) W0 (ss2 a cls d) (b₀ :: suite) (ss3 a cls d) P ms)
    (hN : X.N.Nodup) (hs : X.stack = X.env :: X.outer := by rfl) (hf : X.env.frame = some X.env.locals := by rfl) (hi : X.N[i]? = some n := by rfl) (hln : X.env.kindOf n = some .local := by rfl) :
    S1J X (xrOf xc) W ss (.Try body [.ExceptHandler (some (.Name x np)) (some n) (b₀ :: suite) pos'] [] [] pos) ss' P (oTry mb cat (oSu ms w bot)) := by
  let W1 : WX → WX := fun W cls d σ H => σ.length = X.N.length → W cls d σ H
  have tk1 : ∀ {pn xe} {W : WX}, Takes (X.tr pn xe) W → Takes (X.tr pn xe) (W1 W) := fun {pn xe W} t u s' z => by
    obtain ⟨a, B, sI, pins, σ, H, cls, d, e, I, nb, up, sky, na, os, ag, w⟩ := z
    exact t u s' ⟨a, B, sI, pins, σ, H, cls, d, e, I, nb, up, sky, na, os, ag, w I.len⟩
  let TB := fun W pn xe t po => Classical.choose (hb (W1 W) pn xe (tk1 t) po).ex
  have hTB := fun W pn xe t po => Classical.choose_spec (hb (W1 W) pn xe (tk1 t) po).ex
  let TS := fun a oe cls d pn hz hv => Classical.choose (hsu a oe cls d pn hz hv).ex
  have hTS := fun a oe cls d pn hz hv => Classical.choose_spec (hsu a oe cls d pn hz hv).ex
  let tb : WX → L2.TS := fun W D σ H => ∀ pn xe t po, TB W pn xe t po D σ H
  let ts : Addr → Value → Option Addr → L2.TS := fun a cls d D σ H => ∀ oe pn hz hv, TS a oe cls d pn hz hv D σ H
  refine ⟨_, ps_try_as (tb := tb) (ts := ts) hs hf hN hi hln hc tk (fun W pn xe t po => ⟨fun pins s σ H D I h => (hTB W pn xe t po).1.run pins s σ H D I (h pn xe t po)⟩) (fun a oe cls d pn hz hv => ⟨fun pins s σ H D I h => (hTS a oe cls d pn hz hv).1.run pins s σ H D I (h oe pn hz hv)⟩), fun F0 B F H σ s D at0 hw => ?_⟩
  intro pn xe t po
  refine (hTB _ pn xe t po).2 F0 B F H σ s D at0 ?_
  have hw : WantS ss' P (xrOf xc) W F0 B F (match mb s with
    | .er e => if cat e = true then (oSu ms w bot e).out .rt else .er e
    | .nx s' => .nx s'
    | .rt r => .rt r
    | .no => .no) D := hw
  cases em : mb s with
  | nx s' =>
    rw [em] at hw
    exact hw
  | rt r =>
    rw [em] at hw
    exact hw
  | no =>
    rw [em] at hw
    exact hw
  | er e =>
    rw [em] at hw
    have hw : WantS ss' P (xrOf xc) W F0 B F (if cat e = true then (oSu ms w bot e).out .rt else .er e) D := hw
    intro cls d σ' H' sm xp hlen
    have hcls : cls = .ref (xc e.k) := xp.1
    refine ⟨cat e, by rw [hcls]; exact hcat e, fun hy a ha oe pn hz hv => ?_, fun hn => ?_⟩
    · rw [if_pos hy] at hw
      have hFH : ∀ b o, B b ≠ none → F0 b = some o → F b = some o := fun b o hb e0 => (at0.g.eq b hb).trans e0
      have hF : ∀ b o, B b ≠ none → F0 b = some o → NT o → H' b = some o := fun b o hb e0 nt => by
        have e2 := at0.fh.k (hFH b o hb e0) nt
        cases eb : B b with
        | none => exact absurd eb hb
        | some o' =>
          have n' : NT o' := fun ps z => by
            subst z
            obtain ⟨ps', z'⟩ := at0.g.hh.t b ps eb
            rw [e2] at z'
            cases z'
            exact nt _ rfl
          have e3 := at0.g.hh.k eb n'
          rw [e2] at e3
          cases e3
          exact sm.s.k eb nt
      have hFt : ∀ b ps, B b ≠ none → F0 b = some (.tbl ps) → ∃ ps', H' b = some (.tbl ps') := fun b ps hb e0 => by
        obtain ⟨ps', e2⟩ := at0.fh.t b ps (hFH b _ hb e0)
        cases eb : B b with
        | none => exact absurd eb hb
        | some o' =>
          by_cases n' : NT o'
          · have e3 := at0.g.hh.k eb n'
            rw [e2] at e3
            cases e3
            exact absurd rfl (n' ps')
          · have n2 : ∃ ps, o' = .tbl ps := Classical.byContradiction fun z => n' fun ps e => z ⟨ps, e⟩
            obtain ⟨ps2, rfl⟩ := n2
            exact sm.s.t b ps2 eb
      let F2 : Hp := fun b => if B b = none then H' b else F0 b
      have hF2n : ∀ {b}, B b = none → F2 b = H' b := fun {b} h => if_pos h
      have gr : Grow F0 B F2 H' := ⟨sm.s, ⟨fun b o z nt => by
        by_cases hb : B b = none
        · exact (hF2n hb).symm.trans z
        · have z : (if B b = none then H' b else F0 b) = some o := z
          rw [if_neg hb] at z
          exact hF b o hb z nt, fun b ps z => by
        by_cases hb : B b = none
        · exact ⟨ps, (hF2n hb).symm.trans z⟩
        · have z : (if B b = none then H' b else F0 b) = some (.tbl ps) := z
          rw [if_neg hb] at z
          exact hFt b ps hb z⟩, fun b hb => if_neg hb, sm.t⟩
      obtain ⟨_, dd, v, hd, hdn, hdx, hx⟩ := xp
      have rr : (rErr (K := X.K) xc a cls d).r F2 (.ref a) e := by
        refine ⟨rfl, hcls, dd, v, hd, (hF2n hdn).trans hdx, ?_⟩
        cases e with
        | num n => exact hx
        | link n => exact hx
        | news o => exact hx
        | bound o => exact hx
        | text n => exact hx
        | plan l =>
          obtain ⟨q, e1, e2, e3⟩ := hx
          exact ⟨q, e1, (hF2n e2).trans e3⟩
        | noplan l =>
          obtain ⟨q, e1, e2, e3⟩ := hx
          exact ⟨q, e1, (hF2n e2).trans e3⟩
      have rl := (l a cls d).set ((bt a cls d).b B [] F2 H' σ' hlen) rr
      refine (hTS a oe cls d pn hz hv).2 F0 B F2 H' _ (w e bot) _ ⟨gr, at0.t, rl⟩ ?_
      unfold oSu at hw
      cases es : ms (w e bot) with
      | rt r =>
        rw [es] at hw
        exact hw
      | nx s' =>
        rw [es] at hw
        exact hw.elim
      | er x =>
        rw [es] at hw
        exact hw.elim
      | no =>
        rw [es] at hw
        exact hw.elim
    · rw [if_neg (by rw [hn]; exact Bool.false_ne_true)] at hw
      exact hw cls d σ' H' sm xp

/-! ### the attributes -/
def exNum : Exn → Res Int
  | .num n => .ok n
  | _ => .no
def exLink : Exn → Res Int
  | .link n => .ok n
  | _ => .no
def exNews : Exn → Res (Option Int)
  | .news o => .ok o
  | _ => .no
def exBound : Exn → Res (Option Int)
  | .bound o => .ok o
  | _ => .no
def exPlan : Exn → Res (List Int)
  | .plan l => .ok l
  | _ => .no
def exWit : Exn → Res (List Int)
  | .noplan l => .ok l
  | _ => .no
def exLine : Exn → Res Int
  | .text n => .ok n
  | _ => .no
theorem ee_xf {xc : Nat → Addr} {a C : Addr} {oe : Obj} {cls : Value} {d : Option Addr} {pn : List (Addr × Obj)} {sx : SS X.K S} {i : Nat} {n fld : Str} {pos pos' : Pos} {g : S → Option Exn} {w : Exn → S → S} {R : RT X.K α} {ex : Exn → Res α} (hz : Zc cls d oe) (hf : ∃ vs, oe.data = .fields vs) (l : LI sx i (rErr xc a cls d) g w) (T : XfC X.K C) (hno : PySem.W.findIn X.K (.ref C) fld = some none)
    (hex : ∀ e y, ex e = .ok y → C = xc e.k ∧ e.fld = fld ∧ ∀ F v, xper e F v → R.r F v y) (her : ∀ e x, ex e ≠ .er x) (hN : X.N[i]? = some n := by rfl) (hv : Vis X.env.scope n := by first | exact Or.inl rfl | exact Or.inr (Or.inl rfl) | exact Or.inr (Or.inr rfl)) (hd : (n == ("__debug__" : Str)) = false := by decide) (hcd : (n == ("__classdict__" : Str)) = false := by decide) :
    EE (X.suite a ((a, oe) :: pn)) xr W sx (.Attribute (.Name n pos') fld pos) (pers R) (u1 ex (cV g)) := by
  refine ⟨_, pe_xf T hno hz hf (pe_var (X := X.suite a ((a, oe) :: pn)) (i := i) hN hv hd hcd), fun F0 B F H σ s Q at0 hw => ?_⟩
  have hw : Want xr (pers R) (WE W σ) H F H ((ofOpt (g s)).bind ex) Q := hw
  obtain ⟨e, eg, hw⟩ := Want.optb hw
  obtain ⟨v, h1, h2, h3, dd, u, h4, h5, h6⟩ := l.get at0.r eg
  refine ⟨v, h1, h2, ?_⟩
  cases ee : ex e with
  | ok y =>
    rw [ee] at hw
    obtain ⟨q1, q2, q3⟩ := hex e y ee
    subst q1
    subst q2
    exact ⟨h3, dd, _, u, h4, at0.fh.k h5, by simp [List.lookup], hw u F H (.refl at0.fh) (q3 F u h6)⟩
  | er x => exact absurd ee (her e x)
  | no =>
    rw [ee] at hw
    exact hw.elim
end
end Y
namespace Y
open PySem PySem.Spec PyProof.Rows L2 NdefX
/-- a slot for an exception, outside of its suite -/
def rNo {K : PySem.W.Frag} : RT K Exn := ⟨fun _ _ _ => False, fun _ h => h⟩
theorem optv_of {K : PySem.W.Frag} {F : Hp} {v : V} : ∀ {y : Option Int}, (rOpt (rInt (K := K))).r F v y → v = optV y
  | none, h => h
  | some _, h => h.2
theorem xper_opt {K : PySem.W.Frag} {F : Hp} {v : V} : ∀ {y : Option Int}, v = optV y → (rOpt (rInt (K := K))).r F v y
  | none, h => h
  | some n, h => ⟨(by rw [h]; exact fun z => (nomatch z)), h⟩
theorem xper_lst {K : PySem.W.Frag} {F : Hp} {v : V} {l : List Int} (h : ∃ q, v = V.ref q ∧ F q = some (.lst (l.map V.int))) : (rList (rInt (K := K))).r F v l := by
  obtain ⟨q, e, h⟩ := h
  exact ⟨q, _, e, h, ints_ps l⟩
section
variable [TabC] {X : Cx} {S : Type} {xr : XR} {W : WX} {xc : Nat → Addr} {a C : Addr} {oe : Obj} {cls : Value} {d : Option Addr} {pn : List (Addr × Obj)} {sx : SS X.K S} {i : Nat} {n : Str} {pos pos' : Pos} {g : S → Option Exn} {w : Exn → S → S}
theorem ee_exNum {x qual : Str} {f : Addr} {st : Stmt} (T : ExT X.prog X.K X.mg x "number" (xc 0) f qual st) (hz : Zc cls d oe) (hf : ∃ vs, oe.data = .fields vs) (l : LI sx i (rErr xc a cls d) g w) (hN : X.N[i]? = some n := by rfl) (hv : Vis X.env.scope n := by first | exact Or.inl rfl | exact Or.inr (Or.inl rfl) | exact Or.inr (Or.inr rfl)) (hd : (n == ("__debug__" : Str)) = false := by decide) (hcd : (n == ("__classdict__" : Str)) = false := by decide) :
    EE (X.suite a ((a, oe) :: pn)) xr W sx (.Attribute (.Name n pos') "number" pos) (pers rInt) (u1 exNum (cV g)) :=
  ee_xf hz hf l T.xf T.no (fun e y h => by cases e <;> first | (cases h; exact ⟨rfl, rfl, fun F v h => h⟩) | cases h) (fun e x h => by cases e <;> cases h) hN hv hd hcd
theorem ee_exLink {x qual : Str} {f : Addr} {st : Stmt} (T : ExT X.prog X.K X.mg x "link" (xc 1) f qual st) (hz : Zc cls d oe) (hf : ∃ vs, oe.data = .fields vs) (l : LI sx i (rErr xc a cls d) g w) (hN : X.N[i]? = some n := by rfl) (hv : Vis X.env.scope n := by first | exact Or.inl rfl | exact Or.inr (Or.inl rfl) | exact Or.inr (Or.inr rfl)) (hd : (n == ("__debug__" : Str)) = false := by decide) (hcd : (n == ("__classdict__" : Str)) = false := by decide) :
    EE (X.suite a ((a, oe) :: pn)) xr W sx (.Attribute (.Name n pos') "link" pos) (pers rInt) (u1 exLink (cV g)) :=
  ee_xf hz hf l T.xf T.no (fun e y h => by cases e <;> first | (cases h; exact ⟨rfl, rfl, fun F v h => h⟩) | cases h) (fun e x h => by cases e <;> cases h) hN hv hd hcd
theorem ee_exNews {x qual : Str} {f : Addr} {st : Stmt} (T : ExT X.prog X.K X.mg x "link" (xc 2) f qual st) (hz : Zc cls d oe) (hf : ∃ vs, oe.data = .fields vs) (l : LI sx i (rErr xc a cls d) g w) (hN : X.N[i]? = some n := by rfl) (hv : Vis X.env.scope n := by first | exact Or.inl rfl | exact Or.inr (Or.inl rfl) | exact Or.inr (Or.inr rfl)) (hd : (n == ("__debug__" : Str)) = false := by decide) (hcd : (n == ("__classdict__" : Str)) = false := by decide) :
    EE (X.suite a ((a, oe) :: pn)) xr W sx (.Attribute (.Name n pos') "link" pos) (pers (rOpt rInt)) (u1 exNews (cV g)) :=
  ee_xf hz hf l T.xf T.no (fun e y h => by cases e <;> first | (cases h; exact ⟨rfl, rfl, fun F v h => xper_opt h⟩) | cases h) (fun e x h => by cases e <;> cases h) hN hv hd hcd
theorem ee_exBound {x qual : Str} {f : Addr} {st : Stmt} (T : ExT X.prog X.K X.mg x "link" (xc 4) f qual st) (hz : Zc cls d oe) (hf : ∃ vs, oe.data = .fields vs) (l : LI sx i (rErr xc a cls d) g w) (hN : X.N[i]? = some n := by rfl) (hv : Vis X.env.scope n := by first | exact Or.inl rfl | exact Or.inr (Or.inl rfl) | exact Or.inr (Or.inr rfl)) (hd : (n == ("__debug__" : Str)) = false := by decide) (hcd : (n == ("__classdict__" : Str)) = false := by decide) :
    EE (X.suite a ((a, oe) :: pn)) xr W sx (.Attribute (.Name n pos') "link" pos) (pers (rOpt rInt)) (u1 exBound (cV g)) :=
  ee_xf hz hf l T.xf T.no (fun e y h => by cases e <;> first | (cases h; exact ⟨rfl, rfl, fun F v h => xper_opt h⟩) | cases h) (fun e x h => by cases e <;> cases h) hN hv hd hcd
theorem ee_exPlan {x qual : Str} {f : Addr} {st : Stmt} (T : ExT X.prog X.K X.mg x "plan" (xc 3) f qual st) (hz : Zc cls d oe) (hf : ∃ vs, oe.data = .fields vs) (l : LI sx i (rErr xc a cls d) g w) (hN : X.N[i]? = some n := by rfl) (hv : Vis X.env.scope n := by first | exact Or.inl rfl | exact Or.inr (Or.inl rfl) | exact Or.inr (Or.inr rfl)) (hd : (n == ("__debug__" : Str)) = false := by decide) (hcd : (n == ("__classdict__" : Str)) = false := by decide) :
    EE (X.suite a ((a, oe) :: pn)) xr W sx (.Attribute (.Name n pos') "plan" pos) (pers (rList rInt)) (u1 exPlan (cV g)) :=
  ee_xf hz hf l T.xf T.no (fun e y h => by cases e <;> first | (cases h; exact ⟨rfl, rfl, fun F v h => xper_lst h⟩) | cases h) (fun e x h => by cases e <;> cases h) hN hv hd hcd
theorem ee_exWit {x qual : Str} {f : Addr} {st : Stmt} (T : ExT X.prog X.K X.mg x "witness" (xc 5) f qual st) (hz : Zc cls d oe) (hf : ∃ vs, oe.data = .fields vs) (l : LI sx i (rErr xc a cls d) g w) (hN : X.N[i]? = some n := by rfl) (hv : Vis X.env.scope n := by first | exact Or.inl rfl | exact Or.inr (Or.inl rfl) | exact Or.inr (Or.inr rfl)) (hd : (n == ("__debug__" : Str)) = false := by decide) (hcd : (n == ("__classdict__" : Str)) = false := by decide) :
    EE (X.suite a ((a, oe) :: pn)) xr W sx (.Attribute (.Name n pos') "witness" pos) (pers (rList rInt)) (u1 exWit (cV g)) :=
  ee_xf hz hf l T.xf T.no (fun e y h => by cases e <;> first | (cases h; exact ⟨rfl, rfl, fun F v h => xper_lst h⟩) | cases h) (fun e x h => by cases e <;> cases h) hN hv hd hcd
theorem ee_exLine {x qual : Str} {f : Addr} {st : Stmt} (T : ExT X.prog X.K X.mg x "line" (xc 6) f qual st) (hz : Zc cls d oe) (hf : ∃ vs, oe.data = .fields vs) (l : LI sx i (rErr xc a cls d) g w) (hN : X.N[i]? = some n := by rfl) (hv : Vis X.env.scope n := by first | exact Or.inl rfl | exact Or.inr (Or.inl rfl) | exact Or.inr (Or.inr rfl)) (hd : (n == ("__debug__" : Str)) = false := by decide) (hcd : (n == ("__classdict__" : Str)) = false := by decide) :
    EE (X.suite a ((a, oe) :: pn)) xr W sx (.Attribute (.Name n pos') "line" pos) (pers rInt) (u1 exLine (cV g)) :=
  ee_xf hz hf l T.xf T.no (fun e y h => by cases e <;> first | (cases h; exact ⟨rfl, rfl, fun F v h => h⟩) | cases h) (fun e x h => by cases e <;> cases h) hN hv hd hcd
end
/-! ### the facts of a class, gathered -/
theorem ext_mk {P : Program} {K : PySem.W.Frag} {mg : Str → Option Value} {x fld qual : Str} {C f cc c N : Addr} {st : Stmt} {nm q : Str} {bs bm : List Value} {sn : List Str} {sub : List Value} {ab : Bool} {col : Option Bool} {dd : Option Addr} {k0 k1 k2 k3 k5 : Option Value} {oc doc pm ctv c1 d1 : Value} {od c2 d2 : Option Addr} {osl c3 d3 : Array (Option Value)} {vs : Array Value} {file : Str} {tf : Tok}
    (at_ : mg x = some (.ref C)) (hC : K.lookup C = some (excClassObj nm q C N bs bm true sn sub ab col dd k0 k1 k2 k3 k5 "ValueError.__new__")) (hbm : PySem.HandSPX.refsVE bm = true) (sa : PySem.W.findIn K (.ref C) "__setattr__" = some (some (.builtin "object.__setattr__")))
    (exC : PySem.W.subIn K (.ref C) (.type "BaseException") = some true) (tyC : PySem.W.typeIn K (.ref C) = some (.type "type")) (kC : PySem.W.keepIn K (.ref C) = true) (iC : PySem.W.findIn K (.ref C) "__init__" = some (some (.ref f))) (tI : PySem.W.typeIn K (.ref f) = some (.type "function"))
    (lF : K.lookup f = some ⟨oc, od, .func (PySem.W.fnX "__init__" qual (defArgs st) (defBody st) (defScope st) [("__class__", cc)] .none .none doc pm none (.ref c) ctv), osl⟩) (hcd : PySem.W.codeIn K (.ref c) qual = true) (lcc : K.lookup cc = some ⟨c1, c2, .cell (some (.ref C)), c3⟩)
    (lcd : K.lookup c = some ⟨d1, d2, .fields vs, d3⟩) (h2 : vs[2]? = some (.str file tf)) (hfile : ((P.main.file : Str) == file) = true) (sup : PySem.W.ks_superIn K C C "__init__" = some (some (.builtin "ValueError.__init__"))) (mro : PySem.W.mroIn K C (.ref C) = some true) (ve : PySem.W.subIn K (.ref C) (.type "ValueError") = some true)
    (any : PySem.W.nsIn K cStatics "thirdparty.any" = some none) (top : (P.main.scope.names.lookup ("super" : Str)).isSome = false) (glob : mg "super" = none) (no : PySem.W.findIn K (.ref C) fld = some none) (ga : PySem.W.findIn K (.ref C) "__getattribute__" = some (some (.builtin "BaseException.__getattribute__"))) (gg : PySem.W.findIn K (.ref C) "__getattr__" = some none)
    (hdC : PySem.W.hasDictIn K C = true) : ExT P K mg x fld C f qual st :=
  ⟨at_, ⟨cc, c, ⟨⟨⟨nm, q, N, bs, bm, sn, sub, ab, col, dd, k0, k1, k2, k3, k5, hC, hbm⟩, sa, exC, tyC, kC⟩, ⟨oc, od, osl, doc, pm, ctv, lF⟩, hcd, rfl, ⟨c1, c2, c3, lcc⟩, ⟨d1, d2, vs, d3, file, tf, lcd, h2, hfile⟩, sup, mro, ve, any, top, glob⟩⟩, iC, tI, no, ⟨ga, gg, exC, hdC⟩⟩
/-! ### the law's promise -/
def spl [TabC] (K : PySem.W.Frag) : Sp := fun vs H Q _ => ∃ (F : Hp) (ns : List Int), Same F H ∧ Tb H ∧ ns.length ≤ 63 ∧ (aC (pers (rSeq (K := K) rInt)) aN).p H F H vs (ns, ()) ∧ ∀ F' H', Grow F H F' H' → Q (.bl true) H'
theorem spl_imp [TabC] {K : PySem.W.Frag} {xr : XR} {m : List Int × Unit → Res Bool} (hlaw : ∀ ns : List Int, ns.length ≤ 63 → m (ns, ()) = .ok true) : ∀ vs H Q E, spl K vs H Q E → sp (K := K) (aC (pers (rSeq rInt)) aN) (pers rBool) xr m vs H Q E := fun vs H Q E h => by
  obtain ⟨F, ns, s, tb, hl, h1, h2⟩ := h
  refine ⟨F, (ns, ()), s, tb, h1, ?_⟩
  rw [hlaw ns hl]
  exact fun v F' H' g p => by
    have p : v = .bl true := p
    subst p
    exact h2 F' H' g
theorem spl_law [TabC] {K : PySem.W.Frag} {H : Hp} {a : Addr} {ns : List Int} (hl : ns.length ≤ 63) (hT : Tb H) (hS : SqL K H a (ns.map V.int)) : spl K [.ref a] H (fun v _ => v = .bl true) fun _ _ _ => False :=
  ⟨H, ns, .refl H, hT, hl, ⟨_, _, rfl, ⟨a, _, rfl, hS, ints_ps ns⟩, rfl⟩, fun _ _ _ => rfl⟩
end Y


set_option Elab.async false
set_option linter.all false
set_option autoImplicit false
set_option maxRecDepth 100000
set_option maxHeartbeats 2000000
/-! Y15: written lists of items of several kinds. -/
namespace Y
open PySem PySem.Spec PyProof.Rows L2
def DE.up {K : PySem.W.Frag} {α : Type} [DecidableEq α] {R : RT K α} {n : Nat} (d : DE R n) (m : Nat) (h : n ≤ m := by decide) : DE R m := ⟨d.enc, d.dp, d.lay, fun a => Nat.le_trans (d.dep a) h, d.eq⟩
theorem dn_str {K : PySem.W.Frag} : DN (deStr (K := K)) := ⟨fun a => ⟨by simp [deStr, PyData.eqv], by simp [deStr, PyData.eqv]⟩⟩
def rHl {K : PySem.W.Frag} {α : Type} (T : TR K α) : RT K α := ⟨fun H v a => ∃ p vs, v = .ref p ∧ H p = some (.lst vs) ∧ T.r H vs a, fun s h => by
  obtain ⟨p, vs, e, h, t⟩ := h
  exact ⟨p, vs, e, s.k h, T.mono s t⟩⟩
theorem nn_hl {K : PySem.W.Frag} {α : Type} {T : TR K α} : NN (rHl T) := ⟨fun h z => by
  obtain ⟨p, vs, e, _⟩ := h
  rw [e] at z
  cases z⟩
theorem tgt_hl {K : PySem.W.Frag} {α : Type} {T : TR K α} : Tg (rHl T) "list" := ⟨fun h => by
  obtain ⟨p, vs, e, h, _⟩ := h
  rw [e]
  exact .base (.lst h)⟩
def deHl {K : PySem.W.Frag} {α : Type} [DecidableEq α] {T : TR K α} {n : Nat} (d : DET T n) : DE (rHl T) (n + 1) := ⟨fun a => .list (d.enc a), fun h => by
  obtain ⟨p, vs, rfl, h1, r⟩ := h
  exact .lst (SqL.of h1) (d.dp r), fun h => by
  obtain ⟨p, vs, rfl, h1, r⟩ := h
  simp only [PyData.canLay0]
  exact d.lay r, fun a => by
  have := d.dep a
  simp only [PyData.depth]
  omega, fun a b => by
  simp only [PyData.eqv]
  exact d.eq a b⟩
section
variable [TabC] {X : Cx} {S α β γ A ρ : Type} {xr : XR} {W : WX} {ss : SS X.K S} {pos : Pos} {e1 e2 : Expr}
theorem ee_hl {n : Nat} {es : List Expr} {T : TR X.K α} {m : S → Res α} (h : AA X xr W ss es (kT T n) m) (hn : n ≤ 1000 := by decide) : EE X xr W ss (.List es pos) (pers (rHl T)) m := by
  obtain ⟨t, p, d⟩ := h.ex
  refine ⟨_, pe_lst p, fun F0 B F H σ s Q a hw => d _ _ _ _ _ _ _ a ?_⟩
  cases e : m s with
  | ok as =>
    rw [e] at hw
    intro vs F1 H1 g hp
    refine ⟨Nat.le_trans (by rw [hp.2]; exact hn) (by decide), fun q hq => hw _ _ _ (g.trans (.new g.fh hq)) ⟨q, vs, rfl, upd_same, T.mono (same_new (g.fh.free hq)) hp.1⟩⟩
  | er x =>
    rw [e] at hw
    exact hw
  | no =>
    rw [e] at hw
    exact hw
theorem ee_hix {T : TR X.K α} {R : RT X.K β} {f : α → β} {i j : Nat} {p' : Pos} {ma : S → Res α} (ts : TSel T i R f) (ea : EE X xr W ss e1 (pers (rHl T)) ma) (hx : PlainIx (.Constant (.int (i : Int)) j p') := by exact fun _ _ => rfl) :
    EE X xr W ss (.Subscript e1 (.Constant (.int (i : Int)) j p') pos) (pers R) (u1 (selR f) ma) := by
  obtain ⟨t, p, d⟩ := ea.ex
  refine ⟨_, pe_ix ix_list p pe_int hx, fun F0 B F H σ s Q a hw => ?_⟩
  refine d.go a hw fun a v F1 H1 _ at1 g1 p1 hw1 => ?_
  obtain ⟨q, vs, rfl, hq, r⟩ := p1
  obtain ⟨u, hu, z⟩ := ts.sel r
  exact ⟨q, vs, (i : Int), u, rfl, rfl, SqL.of (at1.fh.k hq), atI_nat hu, hw1.here at1.fh z⟩
end
end Y


set_option Elab.async false
set_option linter.all false
set_option autoImplicit false
set_option maxRecDepth 100000
set_option maxHeartbeats 2000000
/-! Y16: reckoning with exceptions. -/
namespace Y
open PySem PySem.Spec PyProof.Rows L2
section
variable {S S' S2 α β γ A ρ : Type}
@[simp] theorem oRaise_ap (mk : α → Exn) (m : S → Res α) (s : S) : (oRaise mk m s : Out S' ρ) = (m s).out fun a => .er (mk a) := (rfl)
theorem oTry_rt {mb : S → Out S' ρ} {cat : Exn → Bool} {h : Exn → Res ρ} {s : S} {r : ρ} (e : mb s = .rt r) : oTry mb cat h s = .rt r := by
  unfold oTry
  rw [e]
theorem oTry_nx {mb : S → Out S' ρ} {cat : Exn → Bool} {h : Exn → Res ρ} {s : S} {s' : S'} (e : mb s = .nx s') : oTry mb cat h s = .nx s' := by
  unfold oTry
  rw [e]
theorem oTry_er {mb : S → Out S' ρ} {cat : Exn → Bool} {h : Exn → Res ρ} {s : S} {x : Exn} {r : ρ} (e : mb s = .er x) (hc : cat x = true) (hr : h x = .ok r) : oTry mb cat h s = .rt r := by
  unfold oTry
  rw [e]
  show (if cat x = true then (h x).out .rt else .er x) = _
  rw [if_pos hc, hr]
  rfl
theorem oSu_rt {ms : S → Out S2 ρ} {w : Exn → S → S} {bot : S} {x : Exn} {r : ρ} (e : ms (w x bot) = .rt r) : oSu ms w bot x = .ok r := by
  unfold oSu
  rw [e]
@[simp] theorem wPair_g (w : α → S → S) (w' : β → S → S) (a : α × β) (s : S) : wPair w w' a s = w' a.2 (w a.1 s) := (rfl)
@[simp] theorem exNum_ap (n : Int) : exNum (.num n) = .ok n := (rfl)
@[simp] theorem exLink_ap (n : Int) : exLink (.link n) = .ok n := (rfl)
@[simp] theorem exNews_ap (n : Option Int) : exNews (.news n) = .ok n := (rfl)
@[simp] theorem exBound_ap (n : Option Int) : exBound (.bound n) = .ok n := (rfl)
@[simp] theorem exPlan_ap (n : List Int) : exPlan (.plan n) = .ok n := (rfl)
@[simp] theorem exWit_ap (n : List Int) : exWit (.noplan n) = .ok n := (rfl)
@[simp] theorem exLine_ap (n : Int) : exLine (.text n) = .ok n := (rfl)
@[simp] theorem ite_er (c : Prop) [Decidable c] (e : Exn) (b : Res α) (k : α → Out S ρ) : (if c then (.er e : Res α) else b).out k = if c then .er e else b.out k := by split <;> rfl
theorem md_2 (a : Int) : modR a 2 = .ok (a % 2) := mod_ok (by decide)
theorem md_3 (a : Int) : modR a 3 = .ok (a % 3) := mod_ok (by decide)
theorem md_4 (a : Int) : modR a 4 = .ok (a % 4) := mod_ok (by decide)
theorem md_5 (a : Int) : modR a 5 = .ok (a % 5) := mod_ok (by decide)
theorem md_6 (a : Int) : modR a 6 = .ok (a % 6) := mod_ok (by decide)
theorem md_7 (a : Int) : modR a 7 = .ok (a % 7) := mod_ok (by decide)
theorem md_8 (a : Int) : modR a 8 = .ok (a % 8) := mod_ok (by decide)
theorem md_9 (a : Int) : modR a 9 = .ok (a % 9) := mod_ok (by decide)
theorem md_10 (a : Int) : modR a 10 = .ok (a % 10) := mod_ok (by decide)
theorem md_11 (a : Int) : modR a 11 = .ok (a % 11) := mod_ok (by decide)
theorem md_12 (a : Int) : modR a 12 = .ok (a % 12) := mod_ok (by decide)
theorem md_13 (a : Int) : modR a 13 = .ok (a % 13) := mod_ok (by decide)
theorem md_14 (a : Int) : modR a 14 = .ok (a % 14) := mod_ok (by decide)
theorem md_15 (a : Int) : modR a 15 = .ok (a % 15) := mod_ok (by decide)
theorem md_16 (a : Int) : modR a 16 = .ok (a % 16) := mod_ok (by decide)
theorem md_17 (a : Int) : modR a 17 = .ok (a % 17) := mod_ok (by decide)
theorem md_18 (a : Int) : modR a 18 = .ok (a % 18) := mod_ok (by decide)
theorem md_20 (a : Int) : modR a 20 = .ok (a % 20) := mod_ok (by decide)
theorem md_24 (a : Int) : modR a 24 = .ok (a % 24) := mod_ok (by decide)
theorem md_25 (a : Int) : modR a 25 = .ok (a % 25) := mod_ok (by decide)
theorem md_30 (a : Int) : modR a 30 = .ok (a % 30) := mod_ok (by decide)
theorem md_40 (a : Int) : modR a 40 = .ok (a % 40) := mod_ok (by decide)
theorem md_50 (a : Int) : modR a 50 = .ok (a % 50) := mod_ok (by decide)
theorem md_60 (a : Int) : modR a 60 = .ok (a % 60) := mod_ok (by decide)
theorem md_61 (a : Int) : modR a 61 = .ok (a % 61) := mod_ok (by decide)
theorem md_62 (a : Int) : modR a 62 = .ok (a % 62) := mod_ok (by decide)
theorem md_63 (a : Int) : modR a 63 = .ok (a % 63) := mod_ok (by decide)
theorem md_100 (a : Int) : modR a 100 = .ok (a % 100) := mod_ok (by decide)
theorem md_1000 (a : Int) : modR a 1000 = .ok (a % 1000) := mod_ok (by decide)
theorem md_2001 (a : Int) : modR a 2001 = .ok (a % 2001) := mod_ok (by decide)
theorem fd_2 (a : Int) : fdivR a 2 = .ok (a / 2) := fdiv_ok (by decide) (by decide)
theorem fd_3 (a : Int) : fdivR a 3 = .ok (a / 3) := fdiv_ok (by decide) (by decide)
theorem fd_4 (a : Int) : fdivR a 4 = .ok (a / 4) := fdiv_ok (by decide) (by decide)
theorem fd_5 (a : Int) : fdivR a 5 = .ok (a / 5) := fdiv_ok (by decide) (by decide)
theorem fd_6 (a : Int) : fdivR a 6 = .ok (a / 6) := fdiv_ok (by decide) (by decide)
theorem fd_7 (a : Int) : fdivR a 7 = .ok (a / 7) := fdiv_ok (by decide) (by decide)
theorem fd_8 (a : Int) : fdivR a 8 = .ok (a / 8) := fdiv_ok (by decide) (by decide)
theorem fd_9 (a : Int) : fdivR a 9 = .ok (a / 9) := fdiv_ok (by decide) (by decide)
theorem fd_10 (a : Int) : fdivR a 10 = .ok (a / 10) := fdiv_ok (by decide) (by decide)
theorem fd_20 (a : Int) : fdivR a 20 = .ok (a / 20) := fdiv_ok (by decide) (by decide)
theorem fd_60 (a : Int) : fdivR a 60 = .ok (a / 60) := fdiv_ok (by decide) (by decide)
theorem fd_120 (a : Int) : fdivR a 120 = .ok (a / 120) := fdiv_ok (by decide) (by decide)
theorem fd_3600 (a : Int) : fdivR a 3600 = .ok (a / 3600) := fdiv_ok (by decide) (by decide)
theorem fd_7200 (a : Int) : fdivR a 7200 = .ok (a / 7200) := fdiv_ok (by decide) (by decide)
theorem pw_9 : powR 10 9 = .ok (10 ^ 9) := pow_ok (by decide)
theorem pw_18 : powR 10 18 = .ok (10 ^ 18) := pow_ok (by decide)
theorem pw_29 : powR 10 29 = .ok (10 ^ 29) := pow_ok (by decide)
theorem pw_30 : powR 10 30 = .ok (10 ^ 30) := pow_ok (by decide)
theorem pw_48 : powR 10 48 = .ok (10 ^ 48) := pow_ok (by decide)
theorem pw_49 : powR 10 49 = .ok (10 ^ 49) := pow_ok (by decide)
theorem pw_50 : powR 10 50 = .ok (10 ^ 50) := pow_ok (by decide)
end
end Y


set_option Elab.async false
set_option linter.all false
set_option autoImplicit false
set_option maxRecDepth 100000
set_option maxHeartbeats 2000000
/-! Y17: sorted(range(n), key=lambda i: (-xs[i], i)), xs captured. -/
namespace Y
open PySem PySem.Spec PyProof.Rows L2
/-! ### the lambda is made -/
section
variable {X : Cx} {pins : List (Addr × Obj)} {σ : St} {H : Hp} {s : Shared}
theorem lam_make3 [TabC] {c P : Addr} {params : Arguments} {body : Expr} {scope : Scope} {pos : Pos} {E : Value → Shared → Prop} {Q : Value → Shared → Prop} (I : Inv X pins σ H s) (TB : LamX.TabB X.base X.mg c P) (hcode : X.env.code = .ref c)
    (hm : (P, fun (_ _ : Nat) => X.env.qual ++ "<lambda>") ∈ TabC.T) (hu : ∀ p ∈ TabC.T, p.1 = P → p.2 = fun (_ _ : Nat) => X.env.qual ++ "<lambda>") (hT : Tb H) (hdef : defaultsOf params X.env = ([], [])) (hfree : ∀ y ∈ scope.names, y.2 = .free → ∃ c, X.env.cells.lookup y.1 = some c)
    (h : ∀ (f c' : Addr) (pm ctv : Value) (H1 : Hp) (s' : Shared), Inv X pins σ H1 s' → Same H H1 → Tb H1 →
      s'.heap.get? f = some (PySem.W.kla_obj "<lambda>" (X.env.qual ++ "<lambda>") params body scope (cloFrom X.env.cells scope.names []) pm c' ctv) → s'.heap.CodeRec (.ref c') (X.env.qual ++ "<lambda>") → Q (.ref f) s') :
    wpAny (model X.prog X.w) X.A (eval (.Lambda params body scope pos) X.env) Q E s := by
  obtain ⟨ps, hP, ht, ha⟩ := (show NdefX.TabN H P (fun (_ _ : Nat) => X.env.qual ++ "<lambda>") from hT _ hm)
  refine PySem.W.kla_eval hdef ?_
  have bP : s.heap.BuiltinsAt X.mg P := TB.bm.keeps I.bk
  have hP' : s.heap.get? P = some { cls := .none, data := .fields ps } := I.hok P _ hP
  cases hc : codeAmong pos ps.toList with
  | none =>
    refine PySem.W.kla_makeFunction (mg := X.mg) (c := c) (P := P) (ps := ps) (closure_ok hfree) I.ok.glob (I.mod.glob.keeps I.bk) hcode (TB.code.keeps I.bk) hP' ht hc TB.gP bP fun c' ctv h' tk hx hge hlt hrec htb => ?_
    have hrec0 := hrec
    obtain ⟨c2, oc, vs, t, e2, hoc, hd, hv⟩ := hrec
    cases e2
    have nC : H c' = none := I.hok.fresh hge
    have I1 := LamX.inv_table (t' := tk) (more := #[rawInt pos.line, rawInt pos.col, .ref c']) (h' := h'.push (PySem.W.kla_obj "<lambda>" (X.env.qual ++ "<lambda>") params body scope (cloFrom X.env.cells scope.names []) ((X.mg "__name__").getD .none) c' ctv)) I hP
      (fun b o hb e => Heap.get?_push_of_some _ (hx b o hb e)) (Heap.get?_push_of_some _ htb) hge ⟨oc, vs, t, Heap.get?_push_of_some _ hoc, hd, hv⟩
    have hE : ∀ b o, H b = some o → NT o → (upd (upd H P (.tbl (ps ++ #[rawInt pos.line, rawInt pos.col, .ref c']))) c' (LamX.CodeO c' (X.env.qual ++ "<lambda>"))) b = some o := fun b o e n => by
      rw [upd_ne (ne_of_none e nC), upd_ne (fun z => n ps (Option.some.inj (e.symm.trans (by rw [z]; exact hP))))]
      exact e
    have hS : Same H (upd (upd H P (.tbl (ps ++ #[rawInt pos.line, rawInt pos.col, .ref c']))) c' (LamX.CodeO c' (X.env.qual ++ "<lambda>"))) := ⟨hE, fun b ps' e => by
      by_cases hb : b = P
      · rw [hb, upd_ne (ne_of_none hP nC), upd_same]
        exact ⟨_, rfl⟩
      · rw [upd_ne (ne_of_none e nC), upd_ne hb]
        exact ⟨_, e⟩⟩
    have eL : (ps ++ #[rawInt pos.line, rawInt pos.col, .ref c']).toList = ps.toList ++ [rawInt pos.line, rawInt pos.col, .ref c'] := by simp
    refine h h'.objs.size c' ((X.mg "__name__").getD .none) ctv _ _ I1 hS (fun p hp => ?_) (Heap.get?_push_size _ rfl) ⟨c', oc, vs, t, rfl, Heap.get?_push_of_some _ hoc, hd, hv⟩
    by_cases hb : p.1 = P
    · rw [hu p hp hb, hb]
      refine ⟨_, by rw [upd_ne (ne_of_none hP nC), upd_same], by rw [eL]; exact PySem.TriplesOk_snoc _ _ _ _ ht, fun p' cv hcv => ?_⟩
      rw [eL] at hcv
      rcases LamX.among_app _ ht hcv with z | z
      · obtain ⟨c0, e1, e2⟩ := ha p' cv z
        exact ⟨c0, e1, hE _ _ e2 LamX.codeO_ne⟩
      · exact ⟨c', z, upd_same⟩
    · obtain ⟨ps', a1, a2, a3⟩ := hT p hp
      refine ⟨ps', by rw [upd_ne (ne_of_none a1 nC), upd_ne hb]; exact a1, a2, fun p' cv hcv => ?_⟩
      obtain ⟨c0, e1, e2⟩ := a3 p' cv hcv
      exact ⟨c0, e1, hE _ _ e2 LamX.codeO_ne⟩
  | some cv =>
    obtain ⟨c', e, hco⟩ := ha pos cv hc
    subst e
    refine PySem.W.kla_makeFunctionHit (mg := X.mg) (c := c) (P := P) (ps := ps) (closure_ok hfree) I.ok.glob (I.mod.glob.keeps I.bk) hcode (TB.code.keeps I.bk) hP' ht hc bP fun ctv h' tk hx hsz => ?_
    have I1 : Inv X pins σ H { s with heap := h'.push (PySem.W.kla_obj "<lambda>" (X.env.qual ++ "<lambda>") params body scope (cloFrom X.env.cells scope.names []) ((X.mg "__name__").getD .none) c' ctv), toks := tk } := I.kept fun b o e => Heap.get?_push_of_some _ (hx b o e)
    exact h h'.objs.size c' ((X.mg "__name__").getD .none) ctv H _ I1 (.refl H) hT (Heap.get?_push_size _ rfl) (NdefX.codeO_at I1.hok hco)
end
/-! ### sorted(range(n), key=f) over the heap alone -/
section
variable {prog : Program} {w : World} {A : Around} {E : Value → Shared → Prop} {s : Shared}
/-- an int value -/
def IsI (v : Value) (i : Int) : Prop := ∃ t, v = .int i t
theorem each_rng {n : Nat} : ∀ {us : List Value} {f : Nat → Int}, us.length = n → (∀ j u, us[j]? = some u → IsI u (f j)) → PySem.W.EachIs IsI us ((List.range n).map f) := by
  intro us
  induction us generalizing n with
  | nil =>
    intro f hl h
    have : n = 0 := hl.symm
    subst this
    exact .nil
  | cons u r ih =>
    intro f hl h
    cases n with
    | zero => cases hl
    | succ n =>
      rw [List.range_succ_eq_map, List.map_cons, List.map_map]
      exact .cons (h 0 u rfl) (ih (f := f ∘ Nat.succ) (by simpa using hl) fun j v e => h (j + 1) v (by simpa using e))
theorem sorted_key_rg {r : Addr} {n : Int} {t u v : Tok} {f : Value} {kw : List (Str × Value)} {Q : Value → Shared → Prop} (k : Int → PyData) (hh : A.handled = none) (hr : IsRange s.heap r 0 n 1 t u v) (h0 : 0 ≤ n) (hn : n ≤ 16777216)
    (hal : PySem.W.AllAlike ((rng 0 n.toNat).map k)) (hk : PySem.W.Sortable ((rng 0 n.toNat).map k)) (hu : ∀ x, x ∈ rng 0 n.toNat → A.units + 2 + (k x).depth < cLine) (ha1 : argsOk "sorted" ⟨[.ref r], kw⟩) (ha2 : ∀ x, argsOk "list.sort" ⟨[.ref x], kw⟩) (ht : ∀ x, Builtin.«list.sort» ⟨[.ref x], kw⟩ = ksk_tree x f false)
    (turn : ∀ (v : Value) (x : Int), IsI v x → x ∈ rng 0 n.toNat → ∀ (h : Heap) (tk : Nat), (∀ b o, s.heap.get? b = some o → h.get? b = some o) →
      wpAny (model prog w) A.in1.in1 (call f [v]) (PySem.W.KeyPure (k x) { s with heap := h, toks := tk }) (fun _ _ => False) { s with heap := h, toks := tk })
    (h : ∀ (d : Addr) (out : List Value) (c : Nat) (h1 h' : Heap) (tk : Nat), (∀ b o, s.heap.get? b = some o → h1.get? b = some o) → (∀ b o, h1.get? b = some o → h'.get? b = some o) → h1.objs.size ≤ d → h'.get? d = some (seqObj "list" (List.toArray out) c) → out.length = n.toNat → PySem.W.EachIs IsI out ((rng 0 n.toNat).mergeSort (PySem.W.dataLe false k)) → Q (.ref d) { s with heap := h', toks := tk }) :
    wpAny (model prog w) A (call (.builtin "sorted") [.ref r] kw) Q E s := by
  refine call_function_entry_kw kind_sorted plain_sorted entry_sorted ha1 ?_
  unfold Builtin.«sorted»
  refine wpAny_bind (m := checkCount "sorted" 1 1 _) (wpAny_pure ?_)
  refine wpAny_bind (L2.collect_range (n := (n - 0).toNat) hh hr (small_one (by omega) (by omega) (by omega) (by omega)) (rangeSize_nat 0 n) (by omega) fun h1 tk1 acc k1 hi => ?_)
  have el : acc.toList.length = n.toNat := by rw [Array.length_toList, hi.1]; simp
  have hL : acc.toList.length ≤ sizeLine := by rw [el, sizeLine_eq]; omega
  refine wpAny_bind (wpAny_newList ?_ hL)
  have lt1 : ∀ b o, s.heap.get? b = some o → b ≠ h1.objs.size := fun b o e => Nat.ne_of_lt (Heap.lt_size (k1 b o e))
  have hoL : (h1.push (seqObj "list" acc.toList.toArray 0)).get? h1.objs.size = some (seqObj "list" acc.toList.toArray 0) := Heap.get?_push_size _ rfl
  have lt2 : ∀ b o, h1.get? b = some o → b ≠ h1.objs.size := fun b o e => Nat.ne_of_lt (Heap.lt_size e)
  have ee : PySem.W.EachIs IsI acc.toList (rng 0 n.toNat) := by
    refine each_rng (f := fun i => 0 + (i : Int)) el fun j u hj => ?_
    obtain ⟨t, e⟩ := hi.2 j u (by rw [← hj, Array.getElem?_toList])
    exact ⟨t, by rw [e, Int.mul_one]⟩
  refine wpAny_bind (wpAny_holding (wpAny_call_entry_kw slot_list_sort ⟨_, hoL, rfl⟩ entry_list_sort ?body (ha2 _)))
  case body =>
    rw [ht]
    refine PySem.W.keyH_tree (kz := (rng 0 n.toNat).map k) (s := { s with heap := h1.push (seqObj "list" acc.toList.toArray 0), toks := tk1 }) hoL (by rw [List.length_map]; exact ee.length.symm) hL hal hk ?_
      (PySem.W.keyH_turns (s := { s with heap := h1.push (seqObj "list" acc.toList.toArray 0), toks := tk1 }) ee fun v x hR hx h tk kp => turn v x hR hx h tk fun b o e => kp b o (lt1 b o e) (Heap.get?_push_of_some _ (k1 b o e))) fun h' tk out c kp hD ko => ?_
    · intro d hd
      obtain ⟨x, hx, rfl⟩ := List.mem_map.mp hd
      exact hu x hx
    · exact ⟨_, rfl, wpAny_pure ⟨_, rfl, h h1.objs.size out c h1 h' tk k1 (fun b o e => kp b o (lt2 b o e) (Heap.get?_push_of_some _ e)) (Nat.le_refl _) hD ((ko.length (by rw [List.length_map]; exact ee.length.symm)).trans el) (PySem.W.keyedOut_each k ko ee)⟩⟩
/-! ### the key (-x[a], a), or (x[a], a) -/
def keyE (neg : Bool) (x a : Str) (p1 p2 p3 p4 p5 p6 : Pos) (j : Nat) : Expr := match neg with
  | true => .Tuple [.UnaryOp .USub (.Subscript (.Name x p1) (.Name a p2) p3) p4, .Name a p5] j p6
  | false => .Tuple [.Subscript (.Name x p1) (.Name a p2) p3, .Name a p5] j p6
def keyI (neg : Bool) (i : Int) : Int := match neg with
  | true => -i
  | false => i
/-- the lambda's names: a its parameter, x captured -/
structure LamK (sc scope : Scope) (a x : Str) : Prop where
  kind : scope.kind = .function
  co : scope.isCoroutine = false
  gen : scope.isGenerator = false
  nocell : ∀ y ∈ scope.names, y.2 ≠ .cell
  loc : scope.names.lookup a = some .local
  fr : scope.names.lookup x = some .free
  one : ∀ y ∈ scope.names, y.2 = .free → y.1 = x
  cap : sc.names.lookup x = some .cell ∨ sc.names.lookup x = some .free
def lamKB (sc scope : Scope) (a x : Str) : Bool :=
  decide (scope.kind = .function) && !scope.isCoroutine && !scope.isGenerator && scope.names.all (fun y => !decide (y.2 = .cell)) && decide (scope.names.lookup a = some .local) && decide (scope.names.lookup x = some .free) &&
    scope.names.all (fun y => !decide (y.2 = .free) || decide (y.1 = x)) && (decide (sc.names.lookup x = some .cell) || decide (sc.names.lookup x = some .free))
theorem lamK_by {sc scope : Scope} {a x : Str} (h : lamKB sc scope a x = true) : LamK sc scope a x := by
  unfold lamKB at h
  simp only [Bool.and_eq_true, Bool.or_eq_true, Bool.not_eq_true', decide_eq_true_eq, decide_eq_false_iff_not, List.all_eq_true] at h
  obtain ⟨⟨⟨⟨⟨⟨⟨h1, h2⟩, h3⟩, h4⟩, h5⟩, h6⟩, h7⟩, h8⟩ := h
  exact ⟨h1, h2, h3, h4, h5, h6, fun y hy e => (h7 y hy).elim (fun z => absurd e z) id, h8⟩
theorem key_eval {env : Env} {neg : Bool} {x a : Str} {p1 p2 p3 p4 p5 p6 : Pos} {j : Nat} {c l : Addr} {its : Array Value} {i n : Int} {t u : Tok} {m : Str → Option Value} {Q : Value → Shared → Prop} (hk : env.scope.kind = .function) (ha : env.kindOf a = some .local) (hx : env.kindOf x = some .free) (hc : env.cells.lookup x = some c)
    (hcell : s.heap.IsCell c (some (.ref l))) (hns : s.heap.Ns env.locals m) (hm : m a = some (.int i t)) (hl : s.heap.IsList l its) (h0 : 0 ≤ i) (hi : i < 2 ^ 63) (hg : its[i.toNat]? = some (.int n u))
    (hd1 : (x == ("__debug__" : Str)) = false) (hd2 : (a == ("__debug__" : Str)) = false) (hd3 : (x == ("__classdict__" : Str)) = false)
    (h : ∀ (u' : Tok) (tk : Nat), Q (.ref s.heap.objs.size) { s with heap := s.heap.push { cls := .type "tuple", data := .seq #[.int (keyI neg n) u', .int i t] }, toks := tk }) :
    wpAny (model prog w) A (eval (keyE neg x a p1 p2 p3 p4 p5 p6 j) env) Q E s := by
  have sub : ∀ {Q : Value → Shared → Prop}, Q (.int n u) s → wpAny (model prog w) A (eval (.Subscript (.Name x p1) (.Name a p2) p3) env) Q E s := fun {Q} q => by
    refine Subscript_ (wpAny_Name (wpAny_loadName_free hk hx hc hcell ?_ hd3) hd1)
    refine wpAny_Name (wpAny_loadName_local hk ha hns hm ?_) hd2
    exact item_listR hl h0 hi hg q rfl
  cases neg with
  | true =>
    refine wpAny_Tuple_spliced (args_cons (UnaryOp_ (sub (neg_int ?_))) rfl)
    refine args_cons (wpAny_Name (wpAny_loadName_local hk ha hns hm ?_) hd2) rfl
    exact args_nil ⟨by show 2 ≤ sizeLine; decide, h _ _⟩
  | false =>
    refine wpAny_Tuple_spliced (args_cons (sub ?_) rfl)
    refine args_cons (wpAny_Name (wpAny_loadName_local hk ha hns hm ?_) hd2) rfl
    exact args_nil ⟨by show 2 ≤ sizeLine; decide, h _ s.toks⟩
end
/-! ### the rule -/
def srtN (neg : Bool) (xs : List Int) (n : Int) : List Int := (rng 0 n.toNat).mergeSort fun i j => decide (keyI neg (xs.getD i.toNat 0) < keyI neg (xs.getD j.toNat 0) ∨ (keyI neg (xs.getD i.toNat 0) = keyI neg (xs.getD j.toNat 0) ∧ i ≤ j))
def sortL {S : Type} (neg : Bool) (g : S → Option (List Int)) (m : S → Res Int) : S → Res (List Int) := fun s => (m s).bind fun n => (ofOpt (g s)).bind fun xs => guardR (decide (0 ≤ n ∧ n ≤ 16777216 ∧ n ≤ (xs.length : Int))) (srtN neg xs n)
/-- what is known of the code object of a def that makes a lambda -/
structure LamQ [TabC] (base : Heap) (mg : Str → Option Value) (cd : Value) (q : Str) : Prop where
  ex : ∃ c P : Addr, cd = .ref c ∧ LamX.TabB base mg c P ∧ (P, fun (_ _ : Nat) => q) ∈ TabC.T ∧ ∀ p ∈ TabC.T, p.1 = P → p.2 = fun (_ _ : Nat) => q
theorem vals_each : ∀ {out : List Value} {is : List Int}, PySem.W.EachIs IsI out is → Vals (is.map V.int) out
  | _, _, .nil => .nil
  | _, _, .cons h t => .cons h (vals_each t)
def keyD (neg : Bool) (xs : List Int) (i : Int) : PyData := .tuple [.int (keyI neg (xs.getD i.toNat 0)), .int i]
section
variable [TabC] {X : Cx} {te : TE}
def tSort (X : Cx) (neg : Bool) (jx : Nat) (te : TE) : TE := fun σ H Q => te σ H fun v H1 => ∃ n : Int, v = .int n ∧ 0 ≤ n ∧ n ≤ 16777216 ∧ Tb H1 ∧ ∃ (l : Addr) (xs : List Int), σ[jx]? = some (some (.ref l)) ∧ SqL X.K H1 l (xs.map V.int) ∧ n ≤ (xs.length : Int) ∧
  ∀ H2, Same H1 H2 → Tb H2 → ∀ p, H2 p = none → Q (.ref p) (upd H2 p (.lst ((srtN neg xs n).map V.int)))
theorem pe_sortL {neg : Bool} {jx j : Nat} {e : Expr} {a x : Str} {p rp rpos pos lpos kp p1 p2 p3 p4 p5 p6 : Pos} {params : Arguments} {body : Expr} {scope : Scope} (he : PE X e te) (LQ : LamQ X.base X.mg X.env.code (X.env.qual ++ "<lambda>")) (hb : body = keyE neg x a p1 p2 p3 p4 p5 p6 j) (L : LamK X.env.scope scope a x) (hN : X.N[jx]? = some x)
    (hbind : ∀ (q : Str) (cl : List (Str × Addr)) (pm cv ctv v : Value), bindArgs (PySem.W.kla_fn "<lambda>" q params body scope cl pm cv ctv) ⟨[v], []⟩ = pure [(a, v)]) (hdef : defaultsOf params X.env = ([], [])) (hr : Room 3 X.A)
    (hs : X.mg "sorted" = none) (hrg : X.mg "range" = none) (hc : X.calm = true := by rfl) (hgs : Gl X "sorted" := by rfl) (hgr : Gl X "range" := by rfl) (hd1 : (x == ("__debug__" : Str)) = false := by decide) (hd2 : (a == ("__debug__" : Str)) = false := by decide) (hd3 : (x == ("__classdict__" : Str)) = false := by decide)
    (na : starEach [e] X.env = (false, eval e X.env) :: starEach [] X.env := by rfl) :
    PE X (.Call (.Name "sorted" p) [.Call (.Name "range" rp) [e] [] rpos] [⟨some "key", .Lambda params body scope lpos, kp⟩] pos) (tSort X neg jx te) := by
  refine ⟨fun pins s σ H Q I h => ?_⟩
  obtain ⟨cd, P, hcode, TB, hmT, hu⟩ := LQ.ex
  refine wpAny_Call_Name_kw (ld_blt I hgs hs boot_sorted ?_)
  refine callWith_kw ?_
  refine args_cons (Call_ (ld_blt I hgr hrg boot_range (callWith_type1 (one_arg he I h (fun v s2 y H2 I2 r q => ?_) na) na))) rfl
  obtain ⟨n, rfl, h0, hn, tb, l, xs, hσ, hl, hnl, q⟩ := q
  obtain ⟨t, rfl⟩ := r
  refine call_range_1 ?_
  have n2 : H2 s2.heap.objs.size = none := I2.hok.fresh (Nat.le_refl _)
  have I3 : Inv X pins σ (upd H2 s2.heap.objs.size (.rng 0 n)) { s2 with heap := s2.heap.push { cls := .type "range", data := .fields #[.int 0 s2.toks, .int n t, .int 1 (s2.toks + 1)] }, toks := s2.toks + 1 + 1 } :=
    I2.laid (fun b o e => Heap.get?_push_of_some _ e) (Nat.le_refl _) ⟨s2.toks, t, s2.toks + 1, Heap.get?_push_size _ rfl⟩
  refine args_nil (kws_cons (lam_make3 I3 TB hcode hmT hu (Tb.new n2 tb) hdef (fun y hy e => ?_) fun f c' pm ctv H4 s4 I4 S T4 hf hrec => ?_))
  · rw [L.one y hy e]
    exact L.cap.elim (fun z => I3.ok.has _ (.inl z)) fun z => I3.ok.has _ (.inr z)
  refine kws_nil ?_
  show wpAny _ _ (call (.builtin "sorted") [.ref s2.heap.objs.size] [(Str.ofString "key", .ref f)]) _ _ _
  have S14 : Same H2 H4 := (same_new n2).trans S
  obtain ⟨t1, t2, t3, hrng⟩ := I4.hok _ _ (S.k upd_same)
  obtain ⟨its, rv, pl, hz⟩ := I4.list (S14.seq hl)
  have hil := rv.length
  rw [List.length_map] at hil
  refine sorted_key_rg (r := s2.heap.objs.size) (n := n) (t := t1) (u := t2) (v := t3) (keyD neg xs) (I4.ok.hd hc) hrng h0 hn ?_ ?_ ?_ (ksk_s1 _ _) (fun _ => ksk_l1 _ _) (fun _ => ksk_t1 _ _) ?_ ?_
  · intro d hd d' hd'
    obtain ⟨i, _, rfl⟩ := List.mem_map.mp hd
    obtain ⟨i', _, rfl⟩ := List.mem_map.mp hd'
    rfl
  · refine .inl fun d hd => ?_
    obtain ⟨i, _, rfl⟩ := List.mem_map.mp hd
    exact ⟨_, _, rfl⟩
  · intro i _
    have := hr.un
    have e : (keyD neg xs i).depth = 1 := rfl
    rw [e]
    omega
  · intro v i hv hi h tk kp
    obtain ⟨ti, rfl⟩ := hv
    have hi2 := mem_rng.mp hi
    have I5 : Inv X pins σ H4 { s4 with heap := h, toks := tk } := I4.kept kp
    obtain ⟨m, hns0, hlk⟩ := I5.loc
    obtain ⟨u, ru, lk⟩ := hlk jx x (.ref l) hN hσ (L.cap.elim (fun z => .inr (.inl z)) fun z => .inr (.inr z))
    obtain rfl : u = .ref l := ru
    rcases lk with ⟨z, _⟩ | ⟨_, c, hcx, hcell⟩
    · have z' : X.env.scope.names.lookup x = some .local := z
      rcases L.cap with k | k <;> rw [k] at z' <;> cases z'
    · have hfx : ∀ y ∈ scope.names, y.2 = .free → ∃ c, X.env.cells.lookup y.1 = some c := fun y hy e => by
        rw [L.one y hy e]
        exact ⟨c, hcx⟩
      have hcl := NdefX.clo_has hfx (PySem.mem_of_lookup L.fr) hcx
      have hr' : Room 1 X.A.in1.in1 := hr.in1.in1
      refine wpAny_call (PySem.W.kla_callFunE hr'.depth (kp _ _ hf) rfl L.co L.gen rfl ?_ ?_)
      · obtain ⟨c2, oc, vs, tt, e1, e2, e3, e4⟩ := hrec
        exact ⟨c2, oc, vs, tt, e1, kp _ _ e2, e3, e4⟩
      rw [hbind]
      refine wpAny_pure (wpAny_newFunctionEnv L.nocell (fun y hy => ?_) (fun h₁ hns hsb => ⟨I5.nolimit.fresh _ hsb, ?_⟩) L.kind)
      · rw [List.mem_singleton.mp hy]
        exact L.loc
      have kp1 : ∀ b o, h.get? b = some o → h₁.get? b = some o := fun b o e => hsb.extBut b o (Nat.ne_of_lt (Heap.lt_size e)) (Heap.get?_push_of_some _ e)
      have hlen : i.toNat < its.length := by omega
      obtain ⟨w, hw1⟩ : ∃ w, its[i.toNat]? = some w := ⟨_, List.getElem?_eq_getElem hlen⟩
      have hx1 : (xs.map V.int)[i.toNat]? = some (.int (xs.getD i.toNat 0)) := by
        rw [List.getElem?_map, List.getElem?_eq_getElem (by omega)]
        simp [List.getD, List.getElem?_eq_getElem (show i.toNat < xs.length by omega)]
      obtain ⟨w2, hw2, rw2⟩ := rv.get hx1
      rw [hw1] at hw2
      cases hw2
      obtain ⟨tw, rfl⟩ := rw2
      refine PySem.W.kla_codeExpr ?_
      rw [hb]
      refine key_eval (l := l) (c := c) (its := its.toArray) (n := xs.getD i.toNat 0) (u := tw) (i := i) (t := ti) L.kind L.loc L.fr hcl ?_ hns (by simp [List.lookup]) ?_ hi2.1 (by omega) (by simpa using hw1) hd1 hd2 hd3 fun u' tk' => ?_
      · obtain ⟨oc, e1, e2⟩ := hcell
        exact ⟨oc, kp1 _ _ e1, e2⟩
      · exact ((pl.keeps kp).keeps kp1).isList
      · refine ⟨_, _, rfl, fun b o e => Heap.get?_push_of_some _ (kp1 b o e), .tuple (Heap.get?_push_size _ rfl) rfl rfl (.cons (.int _ _) (.cons (.int _ _) .nil))⟩
  · intro d out c h1 h' tk k1 k2 hd he' hol ee
    have I6 : Inv X pins σ H4 { s4 with heap := h1, toks := s4.toks } := I4.kept k1
    have es : (rng 0 n.toNat).mergeSort (PySem.W.dataLe false (keyD neg xs)) = srtN neg xs n := by
      show (rng 0 n.toNat).mergeSort (PySem.W.dataLe false fun i => .tuple [.int (keyI neg (xs.getD i.toNat 0)), .int i]) = _
      rw [PySem.W.dataLe_ii]
      rfl
    rw [es] at ee
    refine ⟨.ref d, upd H4 d (.lst ((srtN neg xs n).map V.int)), I6.laid k2 hd ⟨?_, out, c, vals_each ee, he'⟩, rfl, q H4 S14 T4 d (I6.hok.fresh hd)⟩
    have := (vals_each ee).length
    rw [this, hol, sizeLine_eq]
    omega
end
section
variable [TabC] {X : Cx} {S : Type} {xr : XR} {W : WX} {ss : SS X.K S}
theorem ee_sortL {neg : Bool} {jx j : Nat} {e : Expr} {a x : Str} {p rp rpos pos lpos kp p1 p2 p3 p4 p5 p6 : Pos} {params : Arguments} {body : Expr} {scope : Scope} {g : S → Option (List Int)} {w : List Int → S → S} {m : S → Res Int} (he : EE X xr W ss e (pers rInt) m) (l : LI ss jx (rList rInt) g w)
    (LQ : LamQ X.base X.mg X.env.code (X.env.qual ++ "<lambda>")) (hb : body = keyE neg x a p1 p2 p3 p4 p5 p6 j) {sc : Scope} (L : lamKB sc scope a x = true) (hr : Room 3 X.A) (hs : X.mg "sorted" = none) (hrg : X.mg "range" = none)
    (hbind : ∀ (q : Str) (cl : List (Str × Addr)) (pm cv ctv v : Value), bindArgs (PySem.W.kla_fn "<lambda>" q params body scope cl pm cv ctv) ⟨[v], []⟩ = pure [(a, v)] := by exact fun _ _ _ _ _ _ => rfl) (hsc : X.env.scope = sc := by rfl) (hN : X.N[jx]? = some x := by rfl) (hdef : defaultsOf params X.env = ([], []) := by rfl)
    (hc : X.calm = true := by rfl) (hgs : Gl X "sorted" := by rfl) (hgr : Gl X "range" := by rfl) (hd1 : (x == ("__debug__" : Str)) = false := by decide) (hd2 : (a == ("__debug__" : Str)) = false := by decide) (hd3 : (x == ("__classdict__" : Str)) = false := by decide)
    (na : starEach [e] X.env = (false, eval e X.env) :: starEach [] X.env := by rfl) :
    EE X xr W ss (.Call (.Name "sorted" p) [.Call (.Name "range" rp) [e] [] rpos] [⟨some "key", .Lambda params body scope lpos, kp⟩] pos) (fre rInt) (sortL neg g m) := by
  obtain ⟨t, pe, d⟩ := he.ex
  refine ⟨_, pe_sortL (neg := neg) pe LQ hb (hsc ▸ lamK_by L) hN hbind hdef hr hs hrg hc hgs hgr hd1 hd2 hd3 na, fun F0 B F H σ s Q at0 hw => ?_⟩
  refine d.go at0 hw fun n v F1 H1 _ at1 g1 p1 hw1 => ?_
  obtain ⟨xs, ex⟩ : ∃ xs, g s = some xs := by
    cases eg : g s with
    | some xs => exact ⟨xs, rfl⟩
    | none =>
      rw [eg] at hw1
      exact hw1.elim
  rw [ex] at hw1
  have hw1 : Want xr (fre rInt) (WE W σ) H F1 H1 (guardR (decide (0 ≤ n ∧ n ≤ 16777216 ∧ n ≤ (xs.length : Int))) (srtN neg xs n)) Q := hw1
  obtain ⟨hc, hw1⟩ := Want.grd hw1
  have hc : 0 ≤ n ∧ n ≤ 16777216 ∧ n ≤ (xs.length : Int) := of_decide_eq_true hc
  obtain ⟨v2, e2, q, vs, rfl, hq, ps⟩ := l.get at1.r ex
  refine ⟨n, p1, hc.1, hc.2.1, at1.tb, q, xs, e2, SqL.of (by rw [← ps_ints ps]; exact at1.fh.k hq), hc.2.2, fun H2 S T p hp => ?_⟩
  have gr : Grow F1 H1 F1 H2 := ⟨S, at1.fh.trans S, fun _ _ => rfl, fun _ => T⟩
  exact hw1 _ F1 _ (gr.trans (.newH gr.fh hp)) ⟨p, _, rfl, (g1.hh.trans S).free hp, upd_same, gr.fh.free hp, ints_ps _⟩
end
/-! ### a def whose code object is known -/
section
variable [TabC] {K : PySem.W.Frag} {S S' A ρ : Type} {Pg : Program} {w : World} {mg : Str → Option Value} {base : Heap} {xr : XR}
theorem def_okC {x qual : Str} {st : Stmt} {f : Addr} {fd : FuncData} {N ps : List Str} {k : Nat} {AR : RK K (List V) A} {P : RK K V ρ} {ss : SS K S} {ss' : SS K S'} {ini : A → S} {mb : S → Out S' ρ} {cd : Value} (F : Fun K x qual st f fd) (hcd : fd.code = cd) (sc : FnScope N ps (defScope st)) (hl : HL AR ps.length) (hi : Ini N.length AR ss ini)
    (hb : ∀ (A' : Around) (outer : List Env) (s : Shared) (H : Hp) (E : XK), Room k (A'.deeper (envOfC qual (defScope st) s.heap.objs.size f cd)) →
      SJ (cxOf (L2.CX Pg w) Pg w K mg base N qual (defScope st) f cd A' outer s H E) xr (fun cls d _ H' => E cls d H') ss (defBody st) ss' P mb) :
    FnOk Pg w K mg base (L2.CX Pg w) (k + 1) f fd ps (sp AR P xr (fun a => (mb (ini a)).fin)) := by
  have F' : Fun K x qual st f fd := F
  obtain ⟨oc, od, kV, doc, pm, an, cdv, ct, osl, rfl, lk, hcd2⟩ := F.ex
  have hcd : cdv = cd := hcd
  subst hcd
  refine fn_of lk hcd2 sc (fun vs H Q E h => ?_) fun A' outer s H vs Q E hr h => ?_
  · obtain ⟨F, a, _, _, h, _⟩ := h
    exact hl.len _ _ _ _ _ h
  · obtain ⟨t, p, d⟩ := (hb A' outer s H E hr).ex
    obtain ⟨F, a, sm, tb, hA, hw⟩ := h
    have hw : Want xr _ E H F H (mb (ini a)).fin Q := hw
    refine ⟨t, p, d F H F H _ (ini a) _ ⟨.refl sm, tb, ?_⟩ ?_⟩
    · exact (hi.st H [] F H vs a hA).2
    · cases e : mb (ini a) with
      | nx s' =>
        rw [e] at hw
        exact hw.elim
      | rt r =>
        rw [e] at hw
        exact fun v F' H' g q => hw v F' H' g q
      | er x =>
        rw [e] at hw
        exact fun cls dd σ' H' sm q => hw cls dd H' sm q
      | no =>
        rw [e] at hw
        exact hw.elim
end
/-! ### the law's end, tables among what it leaves -/
theorem walk_tabs {l : PySem.W.OpenLaw} {n k : Nat} {q : Program} {loose : List Str} {XP : (Str → Option Value) → Heap → Prop} {YP : World → Heap → Prop} {d : DefRec} {K : Params → PySem.W.Frag} {CX : World → CXT} {x : Str}
    (hn : l.most = some n) (hn2 : n ≤ sizeLine) (hdf : d.params.defaults = []) (hr : Room k callerA) (hY : ∀ (w : World) (h : Heap), YP w h → (K w.params).In h)
    (F : ∀ (w : World) (mg : Str → Option Value) (fa : Addr) (h : Heap), (K w.params).In h → h.Ns mainGlobals mg → mg d.name = some (.ref fa) → (∀ (y : Str) (f : Addr), ((recsOf q).any fun e => e.name == y) = true → mg y = some (.ref f) → LamX.OwnTab (K w.params) f h) → LamX.LawAtS l w (K w.params) (CX w) k n x mg fa h)
    (hCX : ∀ (w : World) (H : Hp) (s : Shared) (e : Value) (s' : Shared), CX w [] H s (fun _ _ _ => False) e s' → False) :
    PySem.W.WalkO q loose XP YP l.row.toRowW d [] (fun f vs => PySem.call f vs) := by
  refine Att.attach_callB hn hdf fun w s₀ s₁ mg mb fa o pm cd doc a vs ns G Y ho hd hcd hmg hobj hints hlen hbits hg => ?_
  have KX := hY w _ Y
  have own : ∀ (y : Str) (f : Addr), ((recsOf q).any fun e => e.name == y) = true → mg y = some (.ref f) → LamX.OwnTab (K w.params) f s₁.heap := fun y f hrec hmy c P o1 fd1 e dd vs1 sl k1 k2 k3 k4 k5 => by
    obtain ⟨dL, hm, hn1⟩ := List.any_eq_true.mp hrec
    have hn2 : dL.name = y := beq_iff_eq.mp hn1
    obtain ⟨a', o', fd', c', P', h1, h2, h3, h4, h5, h6⟩ := G.T.tab dL hm
    rw [hn2, hmy] at h1
    cases h1
    have g1 := KX _ _ k1
    rw [g1] at h2
    cases h2
    rw [k2] at h3
    cases h3
    rw [k3] at h4
    cases h4
    obtain ⟨⟨oc, vc, e1, _, e3, e4⟩, hP⟩ := h6
    have g2 := KX _ _ k4
    rw [g2] at e1
    cases e1
    cases e3
    rw [k5] at e4
    cases e4
    exact hP
  obtain ⟨fd, cs, sp, hT, nT, C, hb, hsp, hF⟩ := F w mg fa _ KX G.T.g hmg own
  exact LamX.law_callTs KX G.T.g G.T.b G.T.builtins G.T.nolimit hg hT nT C G.T.bmain hobj hints (Nat.le_trans hlen hn2) hr hF hb (fun H hH hS => hsp H a ns hlen hbits hH hS) fun H e s' => hCX w H s₁ e s'
/-- the tables of the law's defs: code object, table, the lambda's name -/
def tabC (cs : List (Addr × Addr × Str)) : TabC := ⟨cs.map fun p => (p.2.1, fun (_ _ : Nat) => p.2.2)⟩
theorem law_at {l : PySem.W.OpenLaw} {w : World} {K : PySem.W.Frag} {CX : CXT} {k : Nat} {x : Str} {mg : Str → Option Value} {fa : Addr} {h : Heap} {fd : FuncData} (cs : List (Addr × Addr × Str)) (KX : K.In h) (hT : ∀ p ∈ cs, h.get? p.2.1 = some { cls := .none, data := .fields #[] }) (nT : ∀ p ∈ cs, K.lookup p.2.1 = none)
    (C : ∀ p ∈ cs, PySem.W.codeHdIn K p.1 p.2.1 = true) (hb : ∀ (s : Shared) (u : Value), BindsTo s fd ⟨[u], []⟩ [(x, u)])
    (F : ∀ base : Heap, K.In base → base.Ns mainGlobals mg → (∀ p ∈ cs, LamX.TabB base mg p.1 p.2.1) → FnOk l.prog w K mg base CX k fa fd [x] (@spl (tabC cs) K)) : LamX.LawAtS l w K CX k 63 x mg fa h := by
  refine ⟨fd, cs.map fun p => (p.1, p.2.1), @spl (tabC cs) K, fun p hp => ?_, fun p hp => ?_, fun p hp => ?_, hb, fun H a ns hl _ hH hS => @spl_law (tabC cs) K H a ns hl (fun p hp => ?_) hS, fun base h1 h2 h3 => F base h1 h2 fun p hp => h3 _ (List.mem_map.mpr ⟨p, hp, rfl⟩)⟩
  · obtain ⟨q, hq, rfl⟩ := List.mem_map.mp hp
    exact hT q hq
  · obtain ⟨q, hq, rfl⟩ := List.mem_map.mp hp
    exact nT q hq
  · obtain ⟨q, hq, rfl⟩ := List.mem_map.mp hp
    exact PySem.W.codeHd_of_K KX (C q hq)
  · obtain ⟨q, hq, rfl⟩ := List.mem_map.mp hp
    exact NdefX.TabN.nil (hH _ (List.mem_map.mpr ⟨q, hq, rfl⟩))
end Y


set_option Elab.async false
set_option linter.all false
set_option autoImplicit false
set_option maxRecDepth 100000
set_option maxHeartbeats 2000000
/-! Y18: an error that a suite hands to a def: its attributes, its class; defs called where an exception is handled. -/
namespace Y
open PySem PySem.Spec PyProof.Rows L2 NdefX
/-! ### isinstance of an error with a dict -/
section
variable {prog : Program} {w : World} {A : Around} {E : Value → Shared → Prop} {s : Shared} {K : PySem.W.Frag} {x D : Addr} {ox : Obj} {od : Option Obj}
theorem findObj_dataS {C : Addr} {name : Str} {a g : Value} (hc : (PySem.W.clsIn K C).isSome = true) (ha : PySem.W.findIn K (.ref C) name = some (some a)) (hg : PySem.W.specialIn K a "__get__" = some (some g)) (ht : PySem.W.takesIn K a = some true) : PySem.W.findObj K C od name = some (.bind g a) := by
  obtain ⟨cd, hc⟩ := Option.isSome_iff_exists.mp hc
  unfold PySem.W.findObj
  rw [hc, Option.bind_some, ha, Option.bind_some]
  simp [hg, ht]
theorem kin_classS {Q : Option Value → Shared → Prop} (C : ExcC K D) (X : K.In s.heap) (I : PySem.W.InstAt s.heap x ox D od) (h : Q (some (.ref D)) { s with toks := s.toks + 1 }) : wpAny (model prog w) A (getAttr? (.ref x) "__class__") Q E s := by
  obtain ⟨hga, hgt, hsub, hdct, ha, hn, htk, hm⟩ := C
  have hf : PySem.W.findObj K D od "__class__" = some (.bind (.builtin "getset_descriptor.__get__") (.builtin "object.__class__")) := findObj_dataS (by obtain ⟨cd, hc, _⟩ := PySem.W.any_some hdct; rw [hc]; rfl) ha hn htk
  obtain ⟨hp, g, d, t, os⟩ := s
  have L0 := I.type (M := model prog w)
  have L1 := PySem.W.looks_findIn (M := model prog w) X hga
  have L2 := PySem.W.looks_findIn (M := model prog w) X hgt
  have L3 := PySem.W.looks_find (M := model prog w) X I hf
  have sub : PySem.W.Looks (model prog w) hp (isInstance (.ref x) (.type "BaseException")) true := L0.andThen (PySem.W.looks_subIn X hsub)
  have hx0 : (false && onTheHeap (Value.builtin "BaseException.__getattribute__")) = false := rfl
  have hx2 : (Value.builtin "BaseException.__getattribute__" == Value.builtin "object.__getattribute__") = false := by decide +kernel
  have hx1 : (onTheHeap (Value.ref D) && Value.builtin "BaseException.__getattribute__" == Value.builtin "object.__getattribute__") = false := by rw [hx2]; rfl
  unfold getAttr? getAttrBy? getAttrBy
  refine wpAny_bind (wpAny_mkText (wpAny_bind (wpAny_attempt (wpAny_holding (wpAny_bind (L0.at (wpAny_bind (L1.at ?_))))))))
  show wpAny _ _ (if (onTheHeap (Value.ref D) && Value.builtin "BaseException.__getattribute__" == Value.builtin "object.__getattribute__") = true then _ else _) _ _ _
  rw [hx1, if_neg Bool.false_ne_true]
  unfold getAttrByItsOwn hookBefore
  refine wpAny_bind ?_
  rw [if_pos (show onTheHeap (Value.ref D) = true from rfl)]
  refine L2.at ?_
  refine wpAny_bind (wpAny_attempt (wpAny_holding ?_))
  unfold callGetattribute
  rw [hx0, if_neg Bool.false_ne_true]
  unfold boundAndCalled
  rw [PySem.F.excAttr_ValueError.ga.bind (.ref x)]
  refine wpAny_bind (wpAny_pure ?_)
  show wpAny _ _ (call (.builtin "BaseException.__getattribute__") [.ref x, .str "__class__" t]) _ _ _
  refine wpAny_call (codeAny_call_builtin PySem.F.excAttr_ValueError.ga.plain PySem.F.entry_bexc_ga ?_)
  refine @PySem.W.check_slot (model prog w) _ _ ⟨hp, g, d, t + 1, os⟩ "BaseException.__getattribute__" "BaseException" "__getattribute__" (.ref x) [.str "__class__" t] [] _ (by decide +kernel) (by decide +kernel) sub (PySem.F.args_bexc_ga (.ref x) (.str "__class__" t)) ?_
  unfold Builtin.«object.__getattribute__»
  refine wpAny_bind (wpAny_of_eq (a := ((Value.ref x : Value), [Value.str "__class__" t])) (by first | rfl | (simp only [slotArgs]; rfl)) ?_)
  refine wpAny_bind (wpAny_pure (wpAny_bind (L0.at (wpAny_bind (L3.at ?_)))))
  show wpAny _ _ (holding [Value.builtin "object.__class__"] (call (.builtin "getset_descriptor.__get__") [.builtin "object.__class__", .ref x, .ref D]) >>= ret) _ _ _
  refine wpAny_bind (wpAny_holding (wpAny_call (PySem.W.class_get (s := ⟨hp, g, d, t + 1, os⟩) (ox := ox) (od := od) X I hm ?_)))
  refine wpAny_pure ?_
  show wpAny _ _ (handedOut (.ref D)) _ _ _
  rw [PySem.W.handedOut_of (v := .ref D) rfl]
  first
    | exact wpAny_pure (wpAny_pure h)
    | exact wpAny_pure h
    | exact wpAny_pure (wpAny_bind (wpAny_pure (wpAny_pure h)))
theorem kitx_excS (C : ExcC K D) : PySem.W.KitX K (.ref x) (.ref D) (fun h => PySem.W.InstAt h x ox D od) where
  ty := fun _ _ _ I => I.type
  it := fun _ _ X _ => by
    obtain ⟨cdD, hcD, _⟩ := PySem.W.any_some C.hd
    unfold PySem.W.clsIn at hcD
    split at hcD
    · rename_i c' d' cd' sl' ho
      intro A' Q' E' s' k q
      unfold isType loadHead
      exact wpAny_bind (wpAny_loadPart (k _ _ (X _ _ ho)) (wpAny_pure q))
    · cases hcD
  ne := fun h tp dd its n sl X htp => by
    obtain ⟨cdD, hcD, _⟩ := PySem.W.any_some C.hd
    refine Bool.eq_false_iff.mpr fun q => ?_
    have e : D = tp := Value.ref.inj (beq_iff_eq.mp q)
    subst e
    unfold PySem.W.clsIn at hcD
    split at hcD
    · rename_i c' d' cd' sl' ho
      have z := (X _ _ ho).symm.trans htp
      cases z
    · cases hcD
  ca := fun X I k => kin_classS C X I k
end
/-! ### where an error is known to a context -/
structure Hx (X : Cx) (a : Addr) (oe : Obj) (cls : Value) (d : Option Addr) : Prop where
  mem : (a, oe) ∈ X.pn
  z : Zc cls d oe
  f : ∃ vs, oe.data = .fields vs
theorem Hx.suite {X : Cx} {a : Addr} {oe : Obj} {cls : Value} {d : Option Addr} {pn : List (Addr × Obj)} (hz : Zc cls d oe) (hf : ∃ vs, oe.data = .fields vs) : Hx (X.suite a ((a, oe) :: pn)) a oe cls d := ⟨List.mem_cons_self, hz, hf⟩
section
variable {X : Cx} {a C : Addr} {oe : Obj} {cls : Value} {d : Option Addr}
theorem pe_xfG {e : Expr} {te : TE} {pos : Pos} {n : Str} (T : XfC X.K C) (hno : PySem.W.findIn X.K (.ref C) n = some none) (hx : Hx X a oe cls d) (he : PE X e te) (hb : attributeBase e n X.env (eval e X.env) = eval e X.env := by rfl) :
    PE X (.Attribute e n pos) (tXf a cls d C n te) := by
  obtain ⟨hm, hz, hf⟩ := hx
  refine ⟨fun pins s σ H Q I h => ?_⟩
  refine attr_of hb (thn (he.run pins s σ H _ I h) fun u s1 hh => ?_)
  obtain ⟨x, H1, I1, rx, ex, ec, dd, fs, v, ed, ea, l, q⟩ := hh
  subst ex
  obtain rfl : u = Value.ref a := rx
  subst ec
  subst ed
  obtain ⟨ha, _⟩ := I1.pin (a, oe) (List.mem_append_left _ hm)
  obtain ⟨vs, hd⟩ := hf
  have hx : ObjOk X.prog X.w H1 s1.heap dd (.xd fs) := I1.hok dd _ ea
  obtain ⟨mA, hns, hr⟩ := hx
  obtain ⟨od, ho, hl⟩ := lookIn_ns hns
  obtain ⟨u, hu, ru⟩ := RelO.some_of (v := v) (o := mA n) (by rw [← l]; exact hr n)
  have J : PySem.W.InstAt s1.heap a oe C (some od) := ⟨ha, hz.1, by unfold PySem.W.notCls; rw [hd] <;> rfl, by rw [hz.2]; exact ho⟩
  exact HandSPX.exc_get I1.kIn J T.ga T.gg T.exC (PySem.W.findObj_own T.hdC hno rfl (by rw [hl, hu])) (handed_of ru) ⟨v, H1, I1.tok _, ru, q⟩
/-- isinstance(e, c) of the error at a -/
def rIsX (K : PySem.W.Frag) (cls : Value) (d : Option Addr) (a : Addr) : List V → Hp → VK → Prop := fun xs H Q => ∃ (D dd : Addr) (fs : List (Str × V)) (c : V) (cv : Value) (b : Bool), cls = .ref D ∧ ExcC K D ∧ d = some dd ∧ H dd = some (.xd fs) ∧ xs = [.ref a, c] ∧ (∀ u, RelV c u → u = cv) ∧ PySem.W.kitOne K (.ref D) cv = some b ∧ Q (.bl b) H
theorem call_isX (hx : Hx X a oe cls d) : CallR X (.builtin "isinstance") (rIsX X.K cls d a) := by
  obtain ⟨hm, hz, hf⟩ := hx
  intro pins s σ H xs us Q I r h
  obtain ⟨D, dd, fs, c, cv, b, rfl, C, rfl, hdd, rfl, hcv, e, q⟩ := h
  cases r with
  | cons rx rr =>
    cases rr with
    | cons rt rr =>
      cases rr
      cases rx
      have ec := hcv _ rt
      subst ec
      obtain ⟨hget, _⟩ := I.pin (a, oe) (List.mem_append.mpr (.inl hm))
      obtain ⟨vs, hv⟩ := hf
      have hxd : ObjOk X.prog X.w H s.heap dd (.xd fs) := I.hok dd _ hdd
      obtain ⟨mA, hns, _⟩ := hxd
      obtain ⟨od, ho, hl⟩ := lookIn_ns hns
      have J : PySem.W.InstAt s.heap a oe D (some od) := ⟨hget, hz.1, by unfold PySem.W.notCls; rw [hv] <;> rfl, by rw [hz.2]; exact ho⟩
      exact PySem.W.kia_one (kitx_excS C) I.kIn J e (fun z => nomatch z) fun tk => ⟨.bl b, H, I.kept (t' := tk) fun _ _ z => z, rfl, q⟩
end
/-! ### the same, typed -/
structure XA {K : PySem.W.Frag} {α : Type} (xc : Nat → Addr) (k : Nat) (fld : Str) (R : RT K α) (ex : Exn → Res α) : Prop where
  hex : ∀ e y, ex e = .ok y → xc k = xc e.k ∧ e.fld = fld ∧ ∀ F v, xper e F v → R.r F v y
  her : ∀ e x, ex e ≠ .er x
section
variable {K : PySem.W.Frag} {xc : Nat → Addr}
theorem xaNum : XA xc 0 "number" (rInt (K := K)) exNum := ⟨(fun e y h => by cases e <;> first | (cases h; exact ⟨rfl, rfl, fun F v h => h⟩) | cases h), (fun e x h => by cases e <;> cases h)⟩
theorem xaLink : XA xc 1 "link" (rInt (K := K)) exLink := ⟨(fun e y h => by cases e <;> first | (cases h; exact ⟨rfl, rfl, fun F v h => h⟩) | cases h), (fun e x h => by cases e <;> cases h)⟩
theorem xaNews : XA xc 2 "link" (rOpt (rInt (K := K))) exNews := ⟨(fun e y h => by cases e <;> first | (cases h; exact ⟨rfl, rfl, fun F v h => xper_opt h⟩) | cases h), (fun e x h => by cases e <;> cases h)⟩
theorem xaPlan : XA xc 3 "plan" (rList (rInt (K := K))) exPlan := ⟨(fun e y h => by cases e <;> first | (cases h; exact ⟨rfl, rfl, fun F v h => xper_lst h⟩) | cases h), (fun e x h => by cases e <;> cases h)⟩
theorem xaBound : XA xc 4 "link" (rOpt (rInt (K := K))) exBound := ⟨(fun e y h => by cases e <;> first | (cases h; exact ⟨rfl, rfl, fun F v h => xper_opt h⟩) | cases h), (fun e x h => by cases e <;> cases h)⟩
theorem xaWit : XA xc 5 "witness" (rList (rInt (K := K))) exWit := ⟨(fun e y h => by cases e <;> first | (cases h; exact ⟨rfl, rfl, fun F v h => xper_lst h⟩) | cases h), (fun e x h => by cases e <;> cases h)⟩
theorem xaLine : XA xc 6 "line" (rInt (K := K)) exLine := ⟨(fun e y h => by cases e <;> first | (cases h; exact ⟨rfl, rfl, fun F v h => h⟩) | cases h), (fun e x h => by cases e <;> cases h)⟩
end
section
variable [TabC] {X : Cx} {S α : Type} {xr : XR} {W : WX} {xc : Nat → Addr} {a C : Addr} {oe : Obj} {cls : Value} {d : Option Addr} {sx : SS X.K S} {i k : Nat} {n : Str} {pos pos' : Pos} {g : S → Option Exn} {w : Exn → S → S}
theorem ee_exG {x fld qual : Str} {f : Addr} {st : Stmt} {R : RT X.K α} {ex : Exn → Res α} (T : ExT X.prog X.K X.mg x fld (xc k) f qual st) (xa : XA xc k fld R ex) (hx : Hx X a oe cls d) (l : LI sx i (rErr xc a cls d) g w)
    (hN : X.N[i]? = some n := by rfl) (hv : Vis X.env.scope n := by first | exact Or.inl rfl | exact Or.inr (Or.inl rfl) | exact Or.inr (Or.inr rfl)) (hd : (n == ("__debug__" : Str)) = false := by decide) (hcd : (n == ("__classdict__" : Str)) = false := by decide) :
    EE X xr W sx (.Attribute (.Name n pos') fld pos) (pers R) (u1 ex (cV g)) := by
  refine ⟨_, pe_xfG T.xf T.no hx (pe_var (i := i) hN hv hd hcd), fun F0 B F H σ s Q at0 hw => ?_⟩
  have hw : Want xr (pers R) (WE W σ) H F H ((ofOpt (g s)).bind ex) Q := hw
  obtain ⟨e, eg, hw⟩ := Want.optb hw
  obtain ⟨v, h1, h2, h3, dd, u, h4, h5, h6⟩ := l.get at0.r eg
  refine ⟨v, h1, h2, ?_⟩
  cases ee : ex e with
  | ok y =>
    rw [ee] at hw
    obtain ⟨q1, q2, q3⟩ := xa.hex e y ee
    subst q2
    exact ⟨h3.trans (by rw [q1]), dd, _, u, h4, at0.fh.k h5, by simp [List.lookup], hw u F H (.refl at0.fh) (q3 F u h6)⟩
  | er x => exact absurd ee (xa.her e x)
  | no =>
    rw [ee] at hw
    exact hw.elim
def isxR (cat : Exn → Bool) (e : Exn) : Res Bool := .ok (cat e)
/-- isinstance(e, C), C a class or a built-in type -/
theorem ee_isx {e2 : Expr} {p : Pos} {c : V} {cv : Value} {cat : Exn → Bool} (hx : Hx X a oe cls d) (l : LI sx i (rErr xc a cls d) g w) (hC : ∀ e : Exn, ExcC X.K (xc e.k)) (hk : ∀ e : Exn, PySem.W.kitOne X.K (.ref (xc e.k)) cv = some (cat e)) (h2 : PE X e2 (L2.tC c)) (hc : ∀ u, RelV c u → u = cv) (hm : X.mg "isinstance" = none)
    (hg : Gl X "isinstance" := by rfl) (hN : X.N[i]? = some n := by rfl) (hv : Vis X.env.scope n := by first | exact Or.inl rfl | exact Or.inr (Or.inl rfl) | exact Or.inr (Or.inr rfl)) (hd : (n == ("__debug__" : Str)) = false := by decide) (hcd : (n == ("__classdict__" : Str)) = false := by decide)
    (he : starEach [.Name n pos', e2] X.env = (false, eval (.Name n pos') X.env) :: starEach [e2] X.env := by rfl) (he2 : starEach [e2] X.env = (false, eval e2 X.env) :: starEach [] X.env := by rfl) (hpl : (backTo pos (starEach [e2] X.env)).any (·.1) = false := by rfl) :
    EE X xr W sx (.Call (.Name "isinstance" p) [.Name n pos', e2] [] pos) (pers rBool) (u1 (isxR cat) (cV g)) := by
  refine ⟨_, pe_callB (call_isX hx) hg hm (by decide +kernel) (pa_cons (pe_var (i := i) hN hv hd hcd) (pa_cons h2 pa_nil he2) he) (by decide) (by decide) he hpl, fun F0 B F H σ s Q at0 hw => ?_⟩
  have hw : Want xr (pers rBool) (WE W σ) H F H ((ofOpt (g s)).bind (isxR cat)) Q := hw
  obtain ⟨e, eg, hw⟩ := Want.optb hw
  obtain ⟨v, h1, h2, h3, dd, u, h4, h5, h6⟩ := l.get at0.r eg
  exact ⟨v, h1, ⟨xc e.k, dd, _, c, cv, cat e, h3, hC e, h4, at0.fh.k h5, by rw [h2], hc, hk e, hw.here at0.fh rfl⟩⟩
end
/-! ### a def called with the error that is handled -/
structure FnW (P : Program) (w : World) (K : PySem.W.Frag) (mg : Str → Option Value) (base : Heap) (CX : CXT) (k : Nat) (f : Addr) (fd : FuncData) (ps : List Str) (sp : Addr → Value → Option Addr → Sp) : Prop where
  len : ∀ a cls d vs H Q E, sp a cls d vs H Q E → vs.length = ps.length
  run : ∀ (A : Around) (outer : List Env) (s : Shared) (H : Hp) (args : Args) (us : List Value) (vs : List V) (Q : VK) (E : XK) (p : Addr × Obj) (cls : Value) (d : Option Addr), L2H.RoomH k A → L2H.PinOk outer H s p → Zc cls d p.2 → (∃ vs, p.2.data = .fields vs) → Env0 P w K mg base A outer s H → BindsTo s fd args (ps.zip us) → Vals vs us → sp p.1 cls d vs H Q E →
    codeAny (model P w) A (.call (.ref f) args) (CR CX outer P w H s Q E) s
theorem FnW.mono {P : Program} {w : World} {K : PySem.W.Frag} {mg : Str → Option Value} {base : Heap} {CX : CXT} {j k : Nat} {f : Addr} {fd : FuncData} {ps : List Str} {sp : Addr → Value → Option Addr → Sp} (F : FnW P w K mg base CX j f fd ps sp) (h : j ≤ k) : FnW P w K mg base CX k f fd ps sp :=
  ⟨F.len, fun A outer s H args us vs Q E p cls d hr => F.run A outer s H args us vs Q E p cls d (hr.mono h)⟩
theorem fn_ofW {CX : CXT} {P : Program} {w : World} {K : PySem.W.Frag} {mg : Str → Option Value} {base : Heap} {k : Nat} {f : Addr} {name qual : Str} {params : Arguments} {body : List Stmt} {scope : Scope} {dV kV doc pm cdv ct oc : Value} {an od : Option Addr}
    {osl : Array (Option Value)} {N ps : List Str} {sp : Addr → Value → Option Addr → Sp} (lk : K.lookup f = some ⟨oc, od, .func (PySem.W.fnOf name qual params body scope dV kV doc pm an cdv ct), osl⟩) (hcd : PySem.W.codeIn K cdv qual = true) (S : FnScope N ps scope)
    (len : ∀ a cls d vs H Q E, sp a cls d vs H Q E → vs.length = ps.length)
    (hbody : ∀ (A : Around) (outer : List Env) (s : Shared) (H : Hp) (vs : List V) (Q : VK) (E : XK) (p : Addr × Obj) (cls : Value) (d : Option Addr), Zc cls d p.2 → (∃ vs, p.2.data = .fields vs) → L2H.RoomH k (A.deeper (envOfC qual scope s.heap.objs.size f cdv)) → sp p.1 cls d vs H Q E →
      ∃ t, PSs (L2H.cxH CX P w K mg base N qual scope f cdv A outer s H E p) body t ∧ t { nx := fun _ H' => Q .non H', rt := Q } (L2.start N vs) H) :
    FnW P w K mg base CX (k + 1) f (PySem.W.fnOf name qual params body scope dV kV doc pm an cdv ct) ps sp := by
  refine ⟨len, fun A outer s H args us vs Q E p cls d hr hpin hz hf e0 hb r hsp => ?_⟩
  have hl := len _ _ _ _ _ _ _ hsp
  have KX : K.In s.heap := e0.mod.kin.keeps fun b o e => (e0.bs b o e).1
  have lim : s.heap.NoLimit := e0.mod.nolimit.keeps fun b o e => (e0.bs b o e).1
  have hkind : ∀ y ∈ ps.zip us, scope.names.lookup y.1 = some .local ∨ (scope.names.lookup y.1 = some .cell ∧ ((cellsFrom (s.heap.objs.size + 1) scope.names []).lookup y.1).isSome = true) := fun ⟨n, v⟩ hy => by
    rcases S.par n (List.of_mem_zip hy).1 with q | q
    · exact .inl q
    · exact .inr ⟨q, PySem.W.cellsFrom_some _ _ _ (.inl q)⟩
  refine codeAny_call_function hr.depth (KX _ _ lk) rfl S.co S.gen rfl (PySem.W.codeRec_of KX hcd) (hb _ _ _ _ ?_)
  refine wpAny_newFunctionEnv_cells S.kind hkind fun env he s1 x => ?_
  subst he
  refine ⟨lim.keeps x.toInCall.keep, codeAny_func ?_⟩
  obtain ⟨t, ht, hq⟩ := hbody A outer s H vs Q E p cls d hz hf (hr.deeper _) hsp
  have I : Inv (L2H.cxH CX P w K mg base N qual scope f cdv A outer s H E p) [] (L2.start N vs) H s1 := L2H.inv_startH S hpin e0 hl r x
  refine wpAny_mono (ht.run [] s1 (L2.start N vs) H _ I hq) (fun fl s' hs => ?_) fun e s' hs => hs
  have fin : ∀ {σ' : L2.St} {H' : Hp} {v : V} {u : Value}, Inv (L2H.cxH CX P w K mg base N qual scope f cdv A outer s H E p) [] σ' H' s' → L2.RelV v u → Q v H' → CE outer P w H s Q u s' :=
    fun {σ' H' v u} J rv q => ⟨v, H', J.os, J.bare, J.base, J.hok, rv, q⟩
  cases fl with
  | ret u =>
    obtain ⟨v, σ', H', J, rv, q⟩ := hs
    exact fin J rv q
  | next =>
    obtain ⟨σ', H', J, q⟩ := hs
    exact fin (v := V.non) (u := Value.none) J rfl q
  | brk =>
    obtain ⟨_, _, _, q⟩ := hs
    exact False.elim q
  | cont =>
    obtain ⟨_, _, _, q⟩ := hs
    exact False.elim q
theorem roomW {k : Nat} {A : Around} {v : Option Value} (h : L2H.RoomH k A) : L2H.RoomH k (A.mark v) := ⟨h.dp, h.un⟩
section
variable [TabC] {K : PySem.W.Frag} {S S' A ρ : Type} {Pg : Program} {w : World} {mg : Str → Option Value} {base : Heap} {xr : XR}
theorem def_okW {x qual : Str} {st : Stmt} {f : Addr} {fd : FuncData} {N ps : List Str} {k : Nat} {AR : Addr → Value → Option Addr → RK K (List V) A} {P : RK K V ρ} {ss : Addr → Value → Option Addr → SS K S} {ss' : Addr → Value → Option Addr → SS K S'} {ini : A → S} {mb : S → Out S' ρ} (F : Fun K x qual st f fd) (sc : FnScope N ps (defScope st)) (hl : ∀ a cls d, HL (AR a cls d) ps.length) (hi : ∀ a cls d, Ini N.length (AR a cls d) (ss a cls d) ini)
    (hb : ∀ (cdv : Value) (A' : Around) (outer : List Env) (s : Shared) (H : Hp) (E : XK) (p : Addr × Obj) (cls : Value) (d : Option Addr), L2H.RoomH k (A'.deeper (envOfC qual (defScope st) s.heap.objs.size f cdv)) → Hx (L2H.cxH (L2.CX Pg w) Pg w K mg base N qual (defScope st) f cdv A' outer s H E p) p.1 p.2 cls d →
      SJ (L2H.cxH (L2.CX Pg w) Pg w K mg base N qual (defScope st) f cdv A' outer s H E p) xr (fun cls d _ H' => E cls d H') (ss p.1 cls d) (defBody st) (ss' p.1 cls d) P mb) :
    FnW Pg w K mg base (L2.CX Pg w) (k + 1) f fd ps (fun a cls d => sp (AR a cls d) P xr (fun a => (mb (ini a)).fin)) := by
  obtain ⟨oc, od, kV, doc, pm, an, cdv, ct, osl, rfl, lk, hcd2⟩ := F.ex
  refine fn_ofW lk hcd2 sc (fun a cls d vs H Q E h => ?_) fun A' outer s H vs Q E p cls d hz hf hr h => ?_
  · obtain ⟨F, a, _, _, h, _⟩ := h
    exact (hl _ _ _).len _ _ _ _ _ h
  · obtain ⟨t, pt, dt⟩ := (hb cdv A' outer s H E p cls d hr ⟨List.mem_singleton.mpr rfl, hz, hf⟩).ex
    obtain ⟨F, a, sm, tb, hA, hw⟩ := h
    have hw : Want xr _ E H F H (mb (ini a)).fin Q := hw
    refine ⟨t, pt, dt F H F H _ (ini a) _ ⟨.refl sm, tb, ?_⟩ ?_⟩
    · exact ((hi _ _ _).st H [] F H vs a hA).2
    · cases e : mb (ini a) with
      | nx s' =>
        rw [e] at hw
        exact hw.elim
      | rt r =>
        rw [e] at hw
        exact fun v F' H' g q => hw v F' H' g q
      | er x =>
        rw [e] at hw
        exact fun cls dd σ' H' sm q => hw cls dd H' sm q
      | no =>
        rw [e] at hw
        exact hw.elim
end
section
variable {X : Cx} {CX : CXT} {k : Nat} {f : Addr} {fd : FuncData} {ps : List Str} {sp : Addr → Value → Option Addr → Sp} {E : St → XK} {x : Str} {q pos : Pos} {e : Expr} {es : List Expr} {t : TA} {a : Addr} {oe : Obj} {cls : Value} {d : Option Addr}
theorem pe_callW (F : FnW X.prog X.w X.K X.mg X.base CX k f fd ps sp) (hr : L2H.RoomH k X.A) (hh : Hx X a oe cls d) (hg : Gl X x) (hm : X.mg x = some (.ref f)) (hk : PySem.W.keepIn X.K (.ref f) = true) (hb : Binds X.K fd ps []) (hx : ∀ σ, PassesAt CX X σ (E σ))
    (ha : PA X (e :: es) t) (hdb : (x == ("__debug__" : Str)) = false := by decide) (he : starEach (e :: es) X.env = (false, eval e X.env) :: starEach es X.env := by rfl) (hpl : (backTo pos (starEach es X.env)).any (·.1) = false := by rfl) :
    PE X (.Call (.Name x q) (e :: es) [] pos) (tCallS (sp a cls d) E t) := by
  refine ⟨fun pins s σ H Q I h => ?_⟩
  refine wpAny_Call_Name_kw (ld_glob I hg hm ?_ hdb)
  refine PySem.W.callWith_K (h₀ := X.base) I.ok.mod.kin hk (thn (ha.run pos pins s σ H _ I h) fun us s1 ⟨vs, H1, I1, r, q⟩ => ⟨I1.kIn, ?_⟩) he hpl
  have hl : us.length = ps.length := by rw [← r.length]; exact F.len _ _ _ _ _ _ _ q
  have b := hb s1 us I1.kIn (by rw [List.append_nil]; exact hl)
  rw [List.append_nil] at b
  have P1 := I1.pin (a, oe) (List.mem_append_left _ hh.mem)
  have hpin : L2H.PinOk X.stack _ s1 (a, oe) := ⟨P1.1, P1.2.1, fun hm => (List.mem_cons.mp (I1.stkSub a hm)).elim P1.2.2.1 P1.2.2.2.1, P1.2.2.2.2⟩
  refine wpAny_call (codeAny_mono (F.run X.A X.stack s1 _ ⟨us, []⟩ us vs Q (E σ) (a, oe) cls d hr hpin hh.z hh.f I1.env0 b r q) fun r s' hq => ?_)
  cases r with
  | error e => exact hx σ pins _ s1 e s' I1 hq
  | ok fl =>
    cases fl with
    | ret u => exact I1.after hq
    | next => exact False.elim hq
    | brk => exact False.elim hq
    | cont => exact False.elim hq
end
section
variable [TabC] {X : Cx} {S A ρ : Type} {xr : XR} {W : WX} {ss : SS X.K S} {P : RK X.K V ρ} {pos : Pos} {a : Addr} {oe : Obj} {cls : Value} {d : Option Addr}
theorem ee_callW {k : Nat} {f : Addr} {fd : FuncData} {ps : List Str} {x : Str} {p : Pos} {e : Expr} {es : List Expr} {AR : Addr → Value → Option Addr → RK X.K (List V) A} {PA : RK X.K (List V) A} {m : A → Res ρ} {ma : S → Res A} (F : FnW X.prog X.w X.K X.mg X.base (L2.CX X.prog X.w) k f fd ps (fun a cls d => sp (AR a cls d) P xr m)) (hr : L2H.RoomH k X.A) (hm : X.mg x = some (.ref f))
    (hk : PySem.W.keepIn X.K (.ref f) = true) (hb : Binds X.K fd ps []) (hx : Hx X a oe cls d) (tk : Takes X W) (ha : AA X xr W ss (e :: es) PA ma) (hA : ∀ H0 H F vs b, PA.p H0 F H vs b → (AR a cls d).p H F H vs b := by exact fun _ _ _ _ _ h => h) (hg : Gl X x := by rfl) (hdb : (x == ("__debug__" : Str)) = false := by decide)
    (he : starEach (e :: es) X.env = (false, eval e X.env) :: starEach es X.env := by rfl) (hpl : (backTo pos (starEach es X.env)).any (·.1) = false := by rfl) : EE X xr W ss (.Call (.Name x p) (e :: es) [] pos) P (cCall m ma) := by
  obtain ⟨ta, pa, dd⟩ := ha.ex
  refine ⟨_, pe_callW F hr hx hg hm hk hb (fun σ => passAt tk σ) pa hdb he hpl, fun F0 B F H σ s Q a0 hw => ?_⟩
  refine dd.go a0 hw fun b vs F1 H1 _ at1 g1 p1 hw1 => ?_
  exact ⟨F1, b, at1.fh, at1.tb, hA _ _ _ _ _ p1, hw1.late g1.hh⟩
end
end Y


set_option Elab.async false
set_option linter.all false
set_option autoImplicit false
set_option maxRecDepth 100000
set_option maxHeartbeats 2000000
/-! Y19: values of one of two kinds; int(bool). -/
namespace Y
open PySem PySem.Spec PyProof.Rows L2
def rSum {K : PySem.W.Frag} {α β : Type} (R1 : RT K α) (R2 : RT K β) : RT K (α ⊕ β) := ⟨fun H v a => match a with
  | .inl x => R1.r H v x
  | .inr y => R2.r H v y, fun {H H' v a} s h => by
    cases a with
    | inl x => exact R1.mono s h
    | inr y => exact R2.mono s h⟩
section
variable {α β : Type}
def inlR (a : α) : Res (α ⊕ β) := .ok (.inl a)
def inrR (b : β) : Res (α ⊕ β) := .ok (.inr b)
def asLR : α ⊕ β → Res α
  | .inl a => .ok a
  | .inr _ => .no
def asRR : α ⊕ β → Res β
  | .inl _ => .no
  | .inr b => .ok b
def oinlR (o : Option α) : Res (Option (α ⊕ β)) := .ok (o.map .inl)
def oinrR (o : Option β) : Res (Option (α ⊕ β)) := .ok (o.map .inr)
def intbR (a : Bool × Unit) : Res Int := .ok (if a.1 then 1 else 0)
def isiS (b1 b2 : Bool) (a : (α ⊕ β) × Unit × Unit) : Res Bool := .ok (match a.1 with
  | .inl _ => b1
  | .inr _ => b2)
@[simp] theorem inlR_ap (a : α) : (inlR a : Res (α ⊕ β)) = .ok (.inl a) := (rfl)
@[simp] theorem inrR_ap (b : β) : (inrR b : Res (α ⊕ β)) = .ok (.inr b) := (rfl)
@[simp] theorem asLR_l (a : α) : asLR (.inl a : α ⊕ β) = .ok a := (rfl)
@[simp] theorem asRR_r (b : β) : asRR (.inr b : α ⊕ β) = .ok b := (rfl)
@[simp] theorem asLR_r (b : β) : asLR (.inr b : α ⊕ β) = .no := (rfl)
@[simp] theorem asRR_l (a : α) : asRR (.inl a : α ⊕ β) = .no := (rfl)
@[simp] theorem oinlR_ap (o : Option α) : (oinlR o : Res (Option (α ⊕ β))) = .ok (o.map .inl) := (rfl)
@[simp] theorem oinrR_ap (o : Option β) : (oinrR o : Res (Option (α ⊕ β))) = .ok (o.map .inr) := (rfl)
@[simp] theorem intbR_ap (b : Bool) (u : Unit) : intbR (b, u) = .ok (if b then 1 else 0) := (rfl)
@[simp] theorem isiS_l (b1 b2 : Bool) (a : α) (u : Unit × Unit) : isiS b1 b2 ((.inl a : α ⊕ β), u) = .ok b1 := (rfl)
@[simp] theorem isiS_r (b1 b2 : Bool) (b : β) (u : Unit × Unit) : isiS b1 b2 ((.inr b : α ⊕ β), u) = .ok b2 := (rfl)
@[simp] theorem isxR_ap (cat : Exn → Bool) (e : Exn) : isxR cat e = .ok (cat e) := (rfl)
end
theorem nn_sum {K : PySem.W.Frag} {α β : Type} {R1 : RT K α} {R2 : RT K β} (h1 : NN R1) (h2 : NN R2) : NN (rSum R1 R2) := ⟨fun {H v a} h => by
  cases a with
  | inl x => exact h1.nn h
  | inr y => exact h2.nn h⟩
section
variable [TabC] {X : Cx} {S α β : Type} {xr : XR} {W : WX} {ss : SS X.K S} {pos p : Pos} {e e1 : Expr}
theorem EE.map {R : RT X.K α} {R' : RT X.K β} {f : α → Res β} {m : S → Res α} (hf : ∀ F v a b, R.r F v a → f a = .ok b → R'.r F v b) (her : ∀ a x, f a ≠ .er x) (h : EE X xr W ss e (pers R) m) : EE X xr W ss e (pers R') (u1 f m) := by
  obtain ⟨t, pe, d⟩ := h.ex
  refine ⟨t, pe, fun F0 B F H σ s Q at0 hw => ?_⟩
  refine d.go at0 hw fun a v F1 H1 _ at1 g1 p1 hw1 => ?_
  cases ef : f a with
  | ok b =>
    rw [ef] at hw1
    exact hw1.here at1.fh (hf F1 v a b p1 ef)
  | er x => exact absurd ef (her a x)
  | no =>
    rw [ef] at hw1
    exact hw1.elim
theorem EE.inl {R1 : RT X.K α} {R2 : RT X.K β} {m : S → Res α} (h : EE X xr W ss e (pers R1) m) : EE X xr W ss e (pers (rSum R1 R2)) (u1 inlR m) := h.map (fun F v a b r q => by cases q; exact r) (fun a x z => nomatch z)
theorem EE.inr {R1 : RT X.K α} {R2 : RT X.K β} {m : S → Res β} (h : EE X xr W ss e (pers R2) m) : EE X xr W ss e (pers (rSum R1 R2)) (u1 inrR m) := h.map (fun F v a b r q => by cases q; exact r) (fun a x z => nomatch z)
theorem EE.asl {R1 : RT X.K α} {R2 : RT X.K β} {m : S → Res (α ⊕ β)} (h : EE X xr W ss e (pers (rSum R1 R2)) m) : EE X xr W ss e (pers R1) (u1 asLR m) := h.map (fun F v a b r q => by cases a <;> cases q; exact r) (fun a x z => by cases a <;> cases z)
theorem EE.asr {R1 : RT X.K α} {R2 : RT X.K β} {m : S → Res (α ⊕ β)} (h : EE X xr W ss e (pers (rSum R1 R2)) m) : EE X xr W ss e (pers R2) (u1 asRR m) := h.map (fun F v a b r q => by cases a <;> cases q; exact r) (fun a x z => by cases a <;> cases z)
theorem EE.oinl {R1 : RT X.K α} {R2 : RT X.K β} {m : S → Res (Option α)} (h : EE X xr W ss e (pers (rOpt R1)) m) : EE X xr W ss e (pers (rOpt (rSum R1 R2))) (u1 oinlR m) := h.map (fun F v a b r q => by
  cases q
  cases a with
  | none => exact r
  | some a => exact r) (fun a x z => nomatch z)
theorem EE.oinr {R1 : RT X.K α} {R2 : RT X.K β} {m : S → Res (Option β)} (h : EE X xr W ss e (pers (rOpt R2)) m) : EE X xr W ss e (pers (rOpt (rSum R1 R2))) (u1 oinrR m) := h.map (fun F v a b r q => by
  cases q
  cases a with
  | none => exact r
  | some a => exact r) (fun a x z => nomatch z)
theorem ee_intb {es : List Expr} {m : S → Res (Bool × Unit)} (hm : X.mg "int" = none) (h : AA X xr W ss (e1 :: es) (aC (pers rBool) aN) m) (hg : Gl X "int" := by rfl) (he : starEach (e1 :: es) X.env = (false, eval e1 X.env) :: starEach es X.env := by rfl) (hpl : (backTo pos (starEach es X.env)).any (·.1) = false := by rfl) : EE X xr W ss (.Call (.Name "int" p) (e1 :: es) [] pos) (pers rInt) (cCall intbR m) :=
  ee_callTy call_int1 hm h (fun H0 F H vs a E Q s0 s h hw => by
    obtain ⟨v, r, rfl, h, hr⟩ := h
    have hr : r = [] := hr
    subst hr
    have h : v = .bl a.1 := h
    subst h
    exact .inr ⟨a.1, rfl, hw.here s rfl⟩) (by decide +kernel) hg (by decide) (by decide) he hpl
theorem ee_isiS {es : List Expr} {R1 : RT X.K α} {R2 : RT X.K β} {t1 t2 c : String} {b1 b2 : Bool} {m : S → Res ((α ⊕ β) × Unit × Unit)} (tg1 : Tg R1 t1) (tg2 : Tg R2 t2) (hk1 : kitB t1 c = some b1) (hk2 : kitB t2 c = some b2) (hm : X.mg "isinstance" = none) (h : AA X xr W ss (e1 :: es) (aC (trn (rSum R1 R2)) (aC (pers (rTy c)) aN)) m) (hg : Gl X "isinstance" := by rfl)
    (he : starEach (e1 :: es) X.env = (false, eval e1 X.env) :: starEach es X.env := by rfl) (hpl : (backTo pos (starEach es X.env)).any (·.1) = false := by rfl) : EE X xr W ss (.Call (.Name "isinstance" p) (e1 :: es) [] pos) (pers rBool) (cCall (isiS b1 b2) m) :=
  ee_callB call_isi hm h (fun H0 F H vs a E Q s0 s h hw => by
    obtain ⟨v, r, rfl, h, v', r', rfl, h', hr⟩ := h
    have hr : r' = [] := hr
    subst hr
    have h' : v' = .ty c := h'
    subst h'
    obtain ⟨a, u⟩ := a
    cases a with
    | inl x => exact ⟨v, .ty c, _, _, b1, rfl, .ty c, tg1.tg h, kit_ty hk1, hw.here s rfl⟩
    | inr y => exact ⟨v, .ty c, _, _, b2, rfl, .ty c, tg2.tg h, kit_ty hk2, hw.here s rfl⟩) (by decide +kernel) hg (by decide) (by decide) he hpl
end
end Y


set_option Elab.async false
set_option linter.all false
set_option autoImplicit false
set_option maxRecDepth 100000
set_option maxHeartbeats 2000000
/-! Y20: parameters that are looked at alone; structures of one's own, changed within. -/
namespace Y
open PySem PySem.Spec PyProof.Rows L2
/-! ### a slot that holds a thing as it stood at the entry -/
section
variable [TabC] {K : PySem.W.Frag} {S α β : Type}
def sB (R : RT K α) (ss : SS K S) : SS K (Option α × S) where
  rel := fun B acc F H σ s => ∃ x σ', σ = x :: σ' ∧ (∀ a, s.1 = some a → ∃ v, x = some v ∧ R.r B v a) ∧ ss.rel B acc F H σ' s.2
  grow := fun h s g => by
    obtain ⟨x, σ', e, h, t⟩ := h
    exact ⟨x, σ', e, h, ss.grow t s g⟩
  frame := fun h hp => by
    obtain ⟨x, σ', e, h, t⟩ := h
    exact ⟨x, σ', e, h, ss.frame t hp⟩
  more := fun h hq => by
    obtain ⟨x, σ', e, h, t⟩ := h
    exact ⟨x, σ', e, h, ss.more t hq⟩
  frz := fun h hp hf => by
    obtain ⟨x, σ', e, h, t⟩ := h
    exact ⟨x, σ', e, h, ss.frz t hp hf⟩
structure LB (ss : SS K S) (i : Nat) (R : RT K α) (g : S → Option α) : Prop where
  get : ∀ {B : Hp} {acc : List Addr} {F H : Hp} {σ : St} {s : S} {a : α}, ss.rel B acc F H σ s → g s = some a → ∃ v, σ[i]? = some (some v) ∧ R.r B v a
variable {ss : SS K S} {R : RT K α} {R' : RT K β} {i : Nat}
theorem LB.z : LB (sB R ss) 0 R gz := ⟨fun h e => by
  obtain ⟨x, σ', rfl, h, t⟩ := h
  obtain ⟨v, ev, hv⟩ := h _ e
  exact ⟨v, by rw [ev]; rfl, hv⟩⟩
theorem LB.b {g : S → Option α} (l : LB ss i R g) : LB (sB R' ss) (i + 1) R (gs g) := ⟨fun h e => by
  obtain ⟨x, σ', rfl, h, t⟩ := h
  exact l.get t e⟩
theorem LB.s {g : S → Option α} (l : LB ss i R g) : LB (sI R' ss) (i + 1) R (gs g) := ⟨fun h e => by
  obtain ⟨x, σ', rfl, h, t⟩ := h
  exact l.get t e⟩
theorem LB.o {g : S → Option α} (l : LB ss i R g) : LB (sO R' ss) (i + 1) R (gs g) := ⟨fun {B acc F H σ s a} h e => by
  obtain ⟨x, σ', rfl, h⟩ := h
  cases q : s.1 with
  | none =>
    rw [q] at h
    exact l.get h e
  | some as =>
    rw [q] at h
    obtain ⟨p, vs, _, _, _, _, _, _, t⟩ := h
    exact l.get t e⟩
theorem LI.b {g : S → Option α} {w : α → S → S} (l : LI ss i R g w) : LI (sB R' ss) (i + 1) R (gs g) (ws w) where
  get := fun h e => by
    obtain ⟨x, σ', rfl, h, t⟩ := h
    exact l.get t e
  set := fun {B acc F H σ s a v} h hv => by
    obtain ⟨x, σ', rfl, h, t⟩ := h
    exact ⟨x, _, rfl, h, l.set t hv⟩
theorem LO.b {g : S → Option (List α)} {w : List α → S → S} (l : LO ss i R g w) : LO (sB R' ss) (i + 1) R (gs g) (ws w) where
  get := fun {B acc F H σ s as} h e => by
    obtain ⟨x, σ', rfl, h, t⟩ := h
    obtain ⟨p, vs, a1, a2, a3, a4, a5, a6, k⟩ := l.get t e
    exact ⟨p, vs, a1, a2, a3, a4, a5, a6, fun vs' as' h' => ⟨x, σ', rfl, h, k vs' as' h'⟩⟩
  set := fun {B acc F H F' H' σ s as p vs} h sm g hb hp hp' hf hps hacc => by
    obtain ⟨x, σ', rfl, h, t⟩ := h
    exact ⟨x, _, rfl, h, l.set t sm g hb hp hp' hf hps hacc⟩
/-- a view given -/
theorem Ini.b {A : Type} {n : Nat} {AR : RK K (List V) A} {ss : SS K S} {ini : A → S} {R : RT K α} (h : Ini n AR ss ini) : Ini (n + 1) (aC (trn R) AR) (sB R ss) (fun a => (some a.1, ini a.2)) := ⟨fun B acc F H0 vs a e => by
  obtain ⟨v, r, rfl, h1, h2⟩ := e
  obtain ⟨l, q⟩ := h.st B acc F H0 r a.2 h2
  refine ⟨Nat.succ_le_succ l, some v, _, ?_, fun b z => ⟨v, rfl, by cases z; exact h1⟩, q⟩
  rw [List.map_cons, List.cons_append, List.length_cons, Nat.succ_sub_succ]⟩
theorem Ini.b0 {n : Nat} {ss : SS K S} {ini : Unit → S} {R : RT K α} (h : Ini n aN ss ini) : Ini (n + 1) aN (sB R ss) (fun a => (none, ini a)) := ⟨fun B acc F H0 vs a e => by
  have e : vs = [] := e
  subst e
  obtain ⟨_, r⟩ := h.st B acc F H0 [] a rfl
  refine ⟨Nat.zero_le _, none, _, rfl, ?_, r⟩
  intro b z
  cases z⟩
end
section
variable [TabC] {X : Cx} {S α β : Type} {xr : XR} {W : WX} {ss : SS X.K S} {pos p : Pos} {e1 e2 : Expr}
theorem ee_view {i : Nat} {x : Str} {R : RT X.K α} {g : S → Option α} (l : LB ss i R g) (hN : X.N[i]? = some x := by rfl) (hv : Vis X.env.scope x := by first | exact Or.inl rfl | exact Or.inr (Or.inl rfl) | exact Or.inr (Or.inr rfl))
    (hd : (x == ("__debug__" : Str)) = false := by decide) (hcd : (x == ("__classdict__" : Str)) = false := by decide) : EE X xr W ss (.Name x pos) (trn R) (cV g) := by
  refine ⟨_, pe_var hN hv hd hcd, fun F0 B F H σ s Q a hw => ?_⟩
  obtain ⟨x, e, hw⟩ := Want.opt hw
  obtain ⟨v, h1, h2⟩ := l.get a.r e
  exact ⟨v, h1, hw v F H (.refl a.fh) (R.mono a.seen h2)⟩
/-- what stands now: a list of free items to be read -/
theorem EE.tsq {e : Expr} {R : RT X.K α} {m : S → Res (List α)} (hf : Free R) (h : EE X xr W ss e (trn (rList R)) m) : EE X xr W ss e (seq R) m := h.same fun _ _ _ _ _ _ hp => by
  obtain ⟨p, vs, ev, h1, ps⟩ := hp
  exact ⟨p, vs, ev, SqL.of h1, Ps.free hf ps⟩
theorem ee_ixT {R : RT X.K α} {ma : S → Res (List α)} {mb : S → Res Int} (ea : EE X xr W ss e1 (trn (rList R)) ma) (eb : EE X xr W ss e2 (pers rInt) mb) (hx : PlainIx e2 := by exact fun _ _ => rfl) : EE X xr W ss (.Subscript e1 e2 pos) (trn R) (b2 ixR ma mb) := by
  obtain ⟨t, p, d⟩ := ea.ex
  obtain ⟨t', p', d'⟩ := eb.ex
  refine ⟨_, pe_ix ix_list p p' hx, bin_ (e1 := e1) (e2 := e2) d d' fun _ F H x y a b E Q _ s h1 h2 hw => ?_⟩
  obtain ⟨q, vs, rfl, hq, ps⟩ := h1
  obtain ⟨z, ez, hw⟩ := Want.opt hw
  obtain ⟨v, hv, r⟩ := ps_at ps ez
  exact ⟨q, vs, b, v, rfl, h2, SqL.of hq, hv, hw.here s r⟩
theorem ee_tixT {T : TR X.K α} {R : RT X.K β} {f : α → β} {i j : Nat} {p' : Pos} {ma : S → Res α} (ts : TSel T i R f) (ea : EE X xr W ss e1 (trn (rTup T)) ma) (hx : PlainIx (.Constant (.int (i : Int)) j p') := by exact fun _ _ => rfl) :
    EE X xr W ss (.Subscript e1 (.Constant (.int (i : Int)) j p') pos) (trn R) (u1 (selR f) ma) := by
  obtain ⟨t, p, d⟩ := ea.ex
  refine ⟨_, pe_ix ix_tup p pe_int hx, fun F0 B F H σ s Q a hw => ?_⟩
  refine d.go a hw fun a v F1 H1 _ at1 g1 p1 hw1 => ?_
  obtain ⟨q, vs, rfl, hq, r⟩ := p1
  obtain ⟨u, hu, z⟩ := ts.sel r
  exact ⟨q, vs, (i : Int), u, rfl, rfl, SqT.of hq, atI_nat hu, hw1.here at1.fh z⟩
end
/-! ### trees: what a value stands for, and the objects that it has to itself -/
structure TT (K : PySem.W.Frag) (α : Type) where
  r : Hp → Hp → V → α → List Addr → Prop
  st : ∀ {F H F' H' : Hp} {v : V} {a : α} {fp : List Addr}, r F H v a fp → Same F F' → (∀ p ∈ fp, ∀ o, H p = some o → NT o → H' p = some o) → r F' H' v a fp
  rt : RT K α
  fix : ∀ {F H : Hp} {v : V} {a : α} {fp : List Addr}, r F H v a fp → Same F H → rt.r H v a
/-- an item that stands for good -/
def tLf {K : PySem.W.Frag} {α : Type} (R : RT K α) : TT K α := ⟨fun F _ v a fp => R.r F v a ∧ fp = [], fun h s _ => ⟨R.mono s h.1, h.2⟩, R, fun h s => R.mono s h.1⟩
inductive Trs {K : PySem.W.Frag} {α : Type} (T : TT K α) (F H : Hp) : List V → List α → List Addr → Prop where
  | nil : Trs T F H [] [] []
  | cons {v : V} {a : α} {f : List Addr} {vs : List V} {as : List α} {fs : List Addr} : T.r F H v a f → Trs T F H vs as fs → Trs T F H (v :: vs) (a :: as) (f ++ fs)
section
variable {K : PySem.W.Frag} {α β : Type} {T : TT K α} {F H F' H' : Hp}
theorem Trs.st : ∀ {vs : List V} {as : List α} {fp : List Addr}, Trs T F H vs as fp → Same F F' → (∀ p ∈ fp, ∀ o, H p = some o → NT o → H' p = some o) → Trs T F' H' vs as fp
  | _, _, _, .nil, _, _ => .nil
  | _, _, _, .cons h t, s, k => .cons (T.st h s fun p hp => k p (List.mem_append_left _ hp)) (Trs.st t s fun p hp => k p (List.mem_append_right _ hp))
theorem Trs.fix : ∀ {vs : List V} {as : List α} {fp : List Addr}, Trs T F H vs as fp → Same F H → Ps T.rt H vs as
  | _, _, _, .nil, _ => .nil
  | _, _, _, .cons h t, s => .cons (T.fix h s) (Trs.fix t s)
theorem Trs.app : ∀ {vs ws : List V} {as bs : List α} {f g : List Addr}, Trs T F H vs as f → Trs T F H ws bs g → Trs T F H (vs ++ ws) (as ++ bs) (f ++ g)
  | _, _, _, _, _, _, .nil, h => h
  | _, _, _, _, _, g, .cons h t, k => by
    rw [List.append_assoc]
    exact .cons h (Trs.app t k)
theorem Trs.len : ∀ {vs : List V} {as : List α} {fp : List Addr}, Trs T F H vs as fp → vs.length = as.length
  | _, _, _, .nil => rfl
  | _, _, _, .cons _ t => congrArg (· + 1) (Trs.len t)
theorem Trs.one {v : V} {a : α} {f : List Addr} (h : T.r F H v a f) : Trs T F H [v] [a] f := by
  have := Trs.cons h (Trs.nil (T := T) (F := F) (H := H))
  rw [List.append_nil] at this
  exact this
end
def tLs {K : PySem.W.Frag} {α : Type} (T : TT K α) : TT K (List α) := ⟨fun F H v as fp => ∃ p vs fs, v = .ref p ∧ H p = some (.lst vs) ∧ Trs T F H vs as fs ∧ fp = p :: fs, fun h s k => by
    obtain ⟨p, vs, fs, e, h, t, ef⟩ := h
    subst ef
    exact ⟨p, vs, fs, e, k p List.mem_cons_self _ h (fun _ z => nomatch z), t.st s fun q hq => k q (List.mem_cons_of_mem _ hq), rfl⟩, rList T.rt, fun h s => by
    obtain ⟨p, vs, fs, e, h, t, _⟩ := h
    exact ⟨p, vs, e, h, t.fix s⟩⟩
/-- a new tree -/
def frT [TabC] {K : PySem.W.Frag} {α : Type} (T : TT K α) : RK K V α := ⟨fun H0 F H v a => ∃ fp, fp.Nodup ∧ (∀ p ∈ fp, H0 p = none ∧ F p = none ∧ H p ≠ none) ∧ T.r F H v a fp, fun {H0 F H F' H' v a} s g h => by
    obtain ⟨fp, nd, k, r⟩ := h
    refine ⟨fp, nd, fun p hp => ⟨(k p hp).1, by rw [g.eq p (k p hp).2.2]; exact (k p hp).2.1, g.hh.some (k p hp).2.2⟩, T.st r (g.ff s) fun p _ o e n => g.hh.k e n⟩, fun s h => by
    obtain ⟨fp, nd, k, r⟩ := h
    exact ⟨fp, nd, fun p hp => ⟨s.free (k p hp).1, (k p hp).2⟩, r⟩⟩
section
variable [TabC] {K : PySem.W.Frag} {S α β : Type}
/-- a slot that owns a tree -/
def sT (T : TT K α) (ss : SS K S) : SS K (Option α × S) where
  rel := fun B acc F H σ s => ∃ x σ', σ = x :: σ' ∧ match s.1 with
    | none => ss.rel B acc F H σ' s.2
    | some a => ∃ v fp, x = some v ∧ fp.Nodup ∧ (∀ p ∈ fp, B p = none ∧ p ∉ acc ∧ F p = none ∧ H p ≠ none) ∧ T.r F H v a fp ∧ ss.rel B (fp ++ acc) F H σ' s.2
  grow := fun {B acc F H F' H' σ s} h sm g => by
    obtain ⟨x, σ', e, h⟩ := h
    refine ⟨x, σ', e, ?_⟩
    cases q : s.1 with
    | none =>
      rw [q] at h
      exact ss.grow h sm g
    | some a =>
      rw [q] at h
      obtain ⟨v, fp, ex, nd, k, r, t⟩ := h
      exact ⟨v, fp, ex, nd, fun p hp => ⟨(k p hp).1, (k p hp).2.1, by rw [g.eq p (k p hp).2.2.2]; exact (k p hp).2.2.1, g.hh.some (k p hp).2.2.2⟩, T.st r (g.ff sm) fun p _ o e n => g.hh.k e n, ss.grow t sm g⟩
  frame := fun {B acc F H σ s p o} h hp => by
    obtain ⟨x, σ', e, h⟩ := h
    refine ⟨x, σ', e, ?_⟩
    cases q : s.1 with
    | none =>
      rw [q] at h
      exact ss.frame h hp
    | some a =>
      rw [q] at h
      obtain ⟨v, fp, ex, nd, k, r, t⟩ := h
      have ne : ∀ z ∈ fp, z ≠ p := fun z hz c => (k z hz).2.1 (by rw [c]; exact hp)
      exact ⟨v, fp, ex, nd, fun z hz => ⟨(k z hz).1, (k z hz).2.1, (k z hz).2.2.1, by rw [upd_ne (ne z hz)]; exact (k z hz).2.2.2⟩, T.st r (.refl F) fun z hz o' e n => by rw [upd_ne (ne z hz)]; exact e, ss.frame t (List.mem_append_right _ hp)⟩
  more := fun {B acc acc' F H σ s} h hq => by
    obtain ⟨x, σ', e, h⟩ := h
    refine ⟨x, σ', e, ?_⟩
    cases q : s.1 with
    | none =>
      rw [q] at h
      exact ss.more h hq
    | some a =>
      rw [q] at h
      obtain ⟨v, fp, ex, nd, k, r, t⟩ := h
      refine ⟨v, fp, ex, nd, fun z hz => ⟨(k z hz).1, fun c => ?_, (k z hz).2.2⟩, r, ss.more t fun y hy => ?_⟩
      · rcases hq z c with d | d
        · exact (k z hz).2.1 d
        · exact (k z hz).2.2.2 d
      · rcases List.mem_append.mp hy with c | c
        · exact .inl (List.mem_append_left _ c)
        · rcases hq y c with d | d
          · exact .inl (List.mem_append_right _ d)
          · exact .inr d
  frz := fun {B acc F H σ s p o} h hp hf0 => by
    obtain ⟨x, σ', e, h⟩ := h
    refine ⟨x, σ', e, ?_⟩
    cases q : s.1 with
    | none =>
      rw [q] at h
      exact ss.frz h hp hf0
    | some a =>
      rw [q] at h
      obtain ⟨v, fp, ex, nd, k, r, t⟩ := h
      have ne : ∀ z ∈ fp, z ≠ p := fun z hz c => (k z hz).2.1 (by rw [c]; exact hp)
      exact ⟨v, fp, ex, nd, fun z hz => ⟨(k z hz).1, (k z hz).2.1, by rw [upd_ne (ne z hz)]; exact (k z hz).2.2.1, (k z hz).2.2.2⟩, T.st r (same_new hf0) fun z hz o' e n => e, ss.frz t (List.mem_append_right _ hp) hf0⟩
structure LT (ss : SS K S) (i : Nat) (T : TT K α) (g : S → Option α) (w : α → S → S) : Prop where
  get : ∀ {B : Hp} {acc : List Addr} {F H : Hp} {σ : St} {s : S} {a : α}, ss.rel B acc F H σ s → g s = some a →
    ∃ v fp, σ[i]? = some (some v) ∧ fp.Nodup ∧ (∀ p ∈ fp, B p = none ∧ p ∉ acc ∧ F p = none ∧ H p ≠ none) ∧ T.r F H v a fp ∧
      ∀ {F1 H1 : Hp} (fw fp' : List Addr) (p : Addr) (o : HO) (a' : α), Same F H → Grow F H F1 H1 → (∀ q ∈ fw, B q = none ∧ H q = none ∧ F1 q = none ∧ H1 q ≠ none ∧ q ∉ acc) → p ∈ fp → fp'.Perm (fp ++ fw) → fp'.Nodup → T.r F1 (upd H1 p o) v a' fp' → ss.rel B acc F1 (upd H1 p o) σ (w a' s)
  set : ∀ {B : Hp} {acc : List Addr} {F H F' H' : Hp} {σ : St} {s : S} {v : V} {a : α} {fp : List Addr}, ss.rel B acc F H σ s → Same F H → Grow F H F' H' → fp.Nodup → (∀ q ∈ fp, B q = none ∧ H q = none ∧ F' q = none ∧ H' q ≠ none ∧ q ∉ acc) → T.r F' H' v a fp → ss.rel B acc F' H' (σ.set i (some v)) (w a s)
variable {ss : SS K S} {T : TT K α} {R' : RT K β} {T' : TT K β} {i : Nat}
theorem LT.z : LT (sT T ss) 0 T gz wz where
  get := fun {B acc F H σ s a} h e => by
    obtain ⟨x, σ', rfl, h⟩ := h
    have e' : s.1 = some a := e
    rw [e'] at h
    obtain ⟨v, fp, rfl, nd, k, r, t⟩ := h
    refine ⟨v, fp, rfl, nd, k, r, fun {F1 H1} fw fp' p o a' sm g hfw hp hperm hnd hr => ?_⟩
    have t2 : ss.rel B (fp' ++ acc) F H σ' s.2 := ss.more t fun q hq => by
      rcases List.mem_append.mp hq with c | c
      · rcases List.mem_append.mp (hperm.mem_iff.mp c) with d | d
        · exact .inl (List.mem_append_left _ d)
        · exact .inr (hfw q d).2.1
      · exact .inl (List.mem_append_right _ c)
    refine ⟨some v, σ', rfl, v, fp', rfl, hnd, fun q hq => ?_, hr, ss.frame (ss.grow t2 sm g) (List.mem_append_left _ (hperm.mem_iff.mpr (List.mem_append_left _ hp)))⟩
    have up : ∀ q, H1 q ≠ none → upd H1 p o q ≠ none := fun q hq => by
      by_cases c : q = p
      · rw [c, upd_same]
        exact fun z => nomatch z
      · rw [upd_ne c]
        exact hq
    rcases List.mem_append.mp (hperm.mem_iff.mp hq) with d | d
    · exact ⟨(k q d).1, (k q d).2.1, by rw [g.eq q (k q d).2.2.2]; exact (k q d).2.2.1, up q (g.hh.some (k q d).2.2.2)⟩
    · exact ⟨(hfw q d).1, (hfw q d).2.2.2.2, (hfw q d).2.2.1, up q (hfw q d).2.2.2.1⟩
  set := fun {B acc F H F' H' σ s v a fp} h sm g nd k r => by
    obtain ⟨x, σ', rfl, h⟩ := h
    refine ⟨some v, σ', rfl, v, fp, rfl, nd, fun q hq => ⟨(k q hq).1, (k q hq).2.2.2.2, (k q hq).2.2.1, (k q hq).2.2.2.1⟩, r, ?_⟩
    cases q : s.1 with
    | none =>
      rw [q] at h
      exact ss.grow (ss.more h fun y hy => (List.mem_append.mp hy).elim (fun c => .inr (k y c).2.1) .inl) sm g
    | some b =>
      rw [q] at h
      obtain ⟨v', fp0, _, _, _, _, t⟩ := h
      exact ss.grow (ss.more t fun y hy => (List.mem_append.mp hy).elim (fun c => .inr (k y c).2.1) fun c => .inl (List.mem_append_right _ c)) sm g
theorem LT.s {g : S → Option α} {w : α → S → S} (l : LT ss i T g w) : LT (sI R' ss) (i + 1) T (gs g) (ws w) where
  get := fun {B acc F H σ s a} h e => by
    obtain ⟨x, σ', rfl, h, t⟩ := h
    obtain ⟨v, fp, a1, a2, a3, a4, k⟩ := l.get t e
    refine ⟨v, fp, a1, a2, a3, a4, fun {F1 H1} fw fp' p o a' sm g hfw hp hperm hnd hr => ⟨x, σ', rfl, fun b q => ?_, k fw fp' p o a' sm g hfw hp hperm hnd hr⟩⟩
    obtain ⟨u, eu, hu⟩ := h b q
    exact ⟨u, eu, R'.mono (g.ff sm) hu⟩
  set := fun {B acc F H F' H' σ s v a fp} h sm g nd k r => by
    obtain ⟨x, σ', rfl, h, t⟩ := h
    exact ⟨x, _, rfl, fun b q => let ⟨u, eu, hu⟩ := h b q; ⟨u, eu, R'.mono (g.ff sm) hu⟩, l.set t sm g nd k r⟩
theorem LT.b {g : S → Option α} {w : α → S → S} (l : LT ss i T g w) : LT (sB R' ss) (i + 1) T (gs g) (ws w) where
  get := fun {B acc F H σ s a} h e => by
    obtain ⟨x, σ', rfl, h, t⟩ := h
    obtain ⟨v, fp, a1, a2, a3, a4, k⟩ := l.get t e
    exact ⟨v, fp, a1, a2, a3, a4, fun {F1 H1} fw fp' p o a' sm g hfw hp hperm hnd hr => ⟨x, σ', rfl, h, k fw fp' p o a' sm g hfw hp hperm hnd hr⟩⟩
  set := fun {B acc F H F' H' σ s v a fp} h sm g nd k r => by
    obtain ⟨x, σ', rfl, h, t⟩ := h
    exact ⟨x, _, rfl, h, l.set t sm g nd k r⟩
theorem LI.t {R : RT K β} {g : S → Option β} {w : β → S → S} (l : LI ss i R g w) : LI (sT T ss) (i + 1) R (gs g) (ws w) where
  get := fun {B acc F H σ s a} h e => by
    obtain ⟨x, σ', rfl, h⟩ := h
    cases q : s.1 with
    | none =>
      rw [q] at h
      exact l.get h e
    | some as =>
      rw [q] at h
      obtain ⟨v, fp, _, _, _, _, t⟩ := h
      exact l.get t e
  set := fun {B acc F H σ s a v} h hv => by
    obtain ⟨x, σ', rfl, h⟩ := h
    refine ⟨x, _, rfl, ?_⟩
    show match s.1 with
      | none => _
      | some as => _
    cases q : s.1 with
    | none =>
      rw [q] at h
      exact l.set h hv
    | some as =>
      rw [q] at h
      obtain ⟨u, fp, a1, a2, a3, a4, t⟩ := h
      exact ⟨u, fp, a1, a2, a3, a4, l.set t hv⟩
/-- a place that is not given holds nothing yet -/
theorem Ini.t {n : Nat} {ini : Unit → S} (h : Ini n aN ss ini) : Ini (n + 1) aN (sT T ss) (fun a => (none, ini a)) := ⟨fun B acc F H0 vs a e => by
  have e : vs = [] := e
  subst e
  obtain ⟨_, r⟩ := h.st B acc F H0 [] a rfl
  exact ⟨Nat.zero_le _, none, _, rfl, r⟩⟩
end
end Y


set_option Elab.async false
set_option linter.all false
set_option autoImplicit false
set_option maxRecDepth 100000
set_option maxHeartbeats 2000000
/-! Y21: structures of one's own, built and changed. -/
namespace Y
open PySem PySem.Spec PyProof.Rows L2
/-! ### the way to a list within -/
inductive Stp where
  | l (i : Nat) | t (i : Nat)
def AdV (H : Hp) : V → List Stp → V → Prop
  | v, [], w => w = v
  | v, .l i :: st, w => ∃ q vs u, v = .ref q ∧ H q = some (.lst vs) ∧ vs[i]? = some u ∧ AdV H u st w
  | v, .t i :: st, w => ∃ q vs u, v = .ref q ∧ H q = some (.tup vs) ∧ vs[i]? = some u ∧ AdV H u st w
theorem AdV.mono {H H' : Hp} (s : Same H H') : ∀ {st : List Stp} {v w : V}, AdV H v st w → AdV H' v st w
  | [], _, _, h => h
  | .l _ :: _, _, _, ⟨q, vs, u, e, h, g, r⟩ => ⟨q, vs, u, e, s.k h, g, AdV.mono s r⟩
  | .t _ :: _, _, _, ⟨q, vs, u, e, h, g, r⟩ => ⟨q, vs, u, e, s.k h, g, AdV.mono s r⟩
theorem AdV.det {H : Hp} : ∀ {st : List Stp} {v w w' : V}, AdV H v st w → AdV H v st w' → w = w'
  | [], _, _, _, h, h' => (show _ = _ from h).trans (show _ = _ from h').symm
  | .l i :: st, _, _, _, ⟨q, vs, u, e, h, g, r⟩, ⟨q', vs', u', e', h', g', r'⟩ => by
    rw [e] at e'
    cases e'
    rw [h] at h'
    cases h'
    rw [g] at g'
    cases g'
    exact AdV.det r r'
  | .t i :: st, _, _, _, ⟨q, vs, u, e, h, g, r⟩, ⟨q', vs', u', e', h', g', r'⟩ => by
    rw [e] at e'
    cases e'
    rw [h] at h'
    cases h'
    rw [g] at g'
    cases g'
    exact AdV.det r r'
theorem AdV.snocL {H : Hp} {i : Nat} : ∀ {st : List Stp} {v w : V}, AdV H v (st ++ [.l i]) w → ∃ q vs, AdV H v st (.ref q) ∧ H q = some (.lst vs) ∧ vs[i]? = some w
  | [], _, _, ⟨q, vs, u, e, h, g, r⟩ => ⟨q, vs, e.symm, h, by rw [g, show _ = u from r]⟩
  | .l _ :: st, _, _, ⟨q, vs, u, e, h, g, r⟩ => let ⟨q', vs', a, b, c⟩ := AdV.snocL r; ⟨q', vs', ⟨q, vs, u, e, h, g, a⟩, b, c⟩
  | .t _ :: st, _, _, ⟨q, vs, u, e, h, g, r⟩ => let ⟨q', vs', a, b, c⟩ := AdV.snocL r; ⟨q', vs', ⟨q, vs, u, e, h, g, a⟩, b, c⟩
theorem AdV.snocT {H : Hp} {i : Nat} : ∀ {st : List Stp} {v w : V}, AdV H v (st ++ [.t i]) w → ∃ q vs, AdV H v st (.ref q) ∧ H q = some (.tup vs) ∧ vs[i]? = some w
  | [], _, _, ⟨q, vs, u, e, h, g, r⟩ => ⟨q, vs, e.symm, h, by rw [g, show _ = u from r]⟩
  | .l _ :: st, _, _, ⟨q, vs, u, e, h, g, r⟩ => let ⟨q', vs', a, b, c⟩ := AdV.snocT r; ⟨q', vs', ⟨q, vs, u, e, h, g, a⟩, b, c⟩
  | .t _ :: st, _, _, ⟨q, vs, u, e, h, g, r⟩ => let ⟨q', vs', a, b, c⟩ := AdV.snocT r; ⟨q', vs', ⟨q, vs, u, e, h, g, a⟩, b, c⟩
section
variable {K : PySem.W.Frag} {α β : Type}
/-- what is kept of the objects in fp but p -/
def Kpt (fp : List Addr) (p : Addr) (H H' : Hp) : Prop := ∀ q ∈ fp, q ≠ p → ∀ o, H q = some o → NT o → H' q = some o
structure Foc (T : TT K α) (U : TT K β) (st : List Stp) (get : α → Option (List β)) (set : α → List β → α) : Prop where
  foc : ∀ {F H : Hp} {v : V} {a : α} {fp : List Addr} {bs : List β}, T.r F H v a fp → fp.Nodup → get a = some bs →
    ∃ p vs fs, AdV H v st (.ref p) ∧ p ∈ fp ∧ H p = some (.lst vs) ∧ Trs U F H vs bs fs ∧ (∀ q ∈ fs, q ∈ fp ∧ q ≠ p) ∧
      ∀ (H' : Hp) (vs' : List V) (bs' : List β) (fs' fw : List Addr), Kpt fp p H H' → H' p = some (.lst vs') → Trs U F H' vs' bs' fs' → fs'.Perm (fs ++ fw) → ∃ fp', fp'.Perm (fp ++ fw) ∧ T.r F H' v (set a bs') fp'
theorem Foc.here {U : TT K β} : Foc (tLs U) U [] some (fun _ bs => bs) := ⟨fun {F H v a fp bs} h nd e => by
  obtain ⟨p, vs, fs, rfl, hp, t, rfl⟩ := h
  cases e
  obtain ⟨n1, n2⟩ := List.nodup_cons.mp nd
  refine ⟨p, vs, fs, rfl, List.mem_cons_self, hp, t, fun q hq => ⟨List.mem_cons_of_mem _ hq, fun c => n1 (by rw [← c]; exact hq)⟩, fun H' vs' bs' fs' fw _ hp' t' pm => ⟨p :: fs', ?_, p, vs', fs', rfl, hp', t', rfl⟩⟩
  exact pm.cons p⟩
theorem Trs.split {T : TT K α} {F H : Hp} {a : α} : ∀ {vs : List V} {as : List α} {fs : List Addr} {i : Nat}, Trs T F H vs as fs → as[i]? = some a → ∃ v f1 f f2, vs[i]? = some v ∧ T.r F H v a f ∧ fs = f1 ++ (f ++ f2) ∧
    ∀ (H' : Hp) (a' : α) (f' : List Addr), (∀ q ∈ f1 ++ f2, ∀ o, H q = some o → NT o → H' q = some o) → T.r F H' v a' f' → Trs T F H' vs (as.set i a') (f1 ++ (f' ++ f2))
  | _, _, _, _, .nil, e => by simp at e
  | _, _, _, 0, .cons (v := v) (f := f) (vs := vs) (fs := fs) h t, e => by
    simp at e
    subst e
    exact ⟨v, [], f, fs, rfl, h, rfl, fun H' a' f' k r => Trs.cons (f := f') (fs := fs) r (t.st (.refl F) fun q hq => k q hq)⟩
  | _, _, _, i + 1, .cons (v := v) (f := f) (vs := vs) (fs := fs) h t, e => by
    obtain ⟨u, f1, g, f2, e1, r, e2, k⟩ := Trs.split (i := i) t (by simpa using e)
    refine ⟨u, f ++ f1, g, f2, by simpa using e1, r, by rw [e2, List.append_assoc], fun H' a' f' kp r' => ?_⟩
    rw [List.append_assoc]
    refine .cons (T.st h (.refl F) fun q hq => kp q (List.mem_append_left _ (List.mem_append_left _ hq))) (k H' a' f' (fun q hq => kp q ?_) r')
    rcases List.mem_append.mp hq with c | c
    · exact List.mem_append_left _ (List.mem_append_right _ c)
    · exact List.mem_append_right _ c
def getL (i : Nat) (get : α → Option (List β)) (as : List α) : Option (List β) := as[i]?.bind get
def setL (i : Nat) (set : α → List β → α) (as : List α) (bs : List β) : List α := match as[i]? with
  | some a => as.set i (set a bs)
  | none => as
theorem Foc.l {T : TT K α} {U : TT K β} {st : List Stp} {get : α → Option (List β)} {set : α → List β → α} (i : Nat) (h : Foc T U st get set) : Foc (tLs T) U (.l i :: st) (getL i get) (setL i set) := ⟨fun {F H v as fp bs} hr nd e => by
  obtain ⟨p0, vs0, fs0, rfl, hp0, t, rfl⟩ := hr
  obtain ⟨n1, n2⟩ := List.nodup_cons.mp nd
  cases ea : as[i]? with
  | none =>
    unfold getL at e
    rw [ea] at e
    cases e
  | some a =>
    unfold getL at e
    rw [ea] at e
    have e : get a = some bs := e
    obtain ⟨v, f1, f, f2, ev, r, ef, k⟩ := t.split ea
    subst ef
    have ndf : f.Nodup := (List.nodup_append.mp (List.nodup_append.mp n2).2.1).1
    obtain ⟨p, vs, fs, ad, hp, hl, tu, hfs, kk⟩ := h.foc r ndf e
    have out : ∀ q ∈ f1 ++ f2, q ≠ p := fun q hq c => by
      subst c
      rcases List.mem_append.mp hq with c | c
      · exact (List.nodup_append.mp n2).2.2 q c q (List.mem_append_left _ hp) rfl
      · exact (List.nodup_append.mp (List.nodup_append.mp n2).2.1).2.2 q hp q c rfl
    have mem : ∀ q ∈ f, q ∈ p0 :: (f1 ++ (f ++ f2)) := fun q hq => List.mem_cons_of_mem _ (List.mem_append_right _ (List.mem_append_left _ hq))
    have p0p : p0 ≠ p := fun c => n1 (by rw [c]; exact List.mem_append_right _ (List.mem_append_left _ hp))
    refine ⟨p, vs, fs, ⟨p0, vs0, v, rfl, hp0, ev, ad⟩, mem p hp, hl, tu, fun q hq => ⟨mem q (hfs q hq).1, (hfs q hq).2⟩, fun H' vs' bs' fs' fw kp hp' t' pm => ?_⟩
    obtain ⟨f', pf, r'⟩ := kk H' vs' bs' fs' fw (fun q hq hne => kp q (mem q hq) hne) hp' t' pm
    have tr := k H' (set a bs') f' (fun q hq o e n => by
      refine kp q ?_ (out q hq) o e n
      rcases List.mem_append.mp hq with c | c
      · exact List.mem_cons_of_mem _ (List.mem_append_left _ c)
      · exact List.mem_cons_of_mem _ (List.mem_append_right _ (List.mem_append_right _ c))) r'
    have es : setL i set as bs' = as.set i (set a bs') := by
      unfold setL
      rw [ea]
    refine ⟨p0 :: (f1 ++ (f' ++ f2)), ?_, p0, vs0, _, rfl, kp p0 List.mem_cons_self p0p _ hp0 (fun _ z => nomatch z), by rw [es]; exact tr, rfl⟩
    refine List.Perm.cons p0 ?_
    show (f1 ++ (f' ++ f2)).Perm ((f1 ++ (f ++ f2)) ++ fw)
    rw [List.append_assoc, List.append_assoc]
    refine List.Perm.append_left f1 ?_
    have q1 : (f' ++ f2).Perm ((f ++ fw) ++ f2) := pf.append_right f2
    rw [List.append_assoc] at q1
    exact q1.trans (List.Perm.append_left f List.perm_append_comm)⟩
end
section
variable [TabC] {X : Cx} {S S' α β ρ : Type} {xr : XR} {W : WX} {ss : SS X.K S} {P : RK X.K V ρ} {pos : Pos} {e1 e2 : Expr} {T : TT X.K α} {U : TT X.K β}
/-! ### the way, as it is written -/
def tPath (j : Nat) (st : List Stp) : TE := fun σ H Q => ∃ v w, σ[j]? = some (some v) ∧ AdV H v st w ∧ Q w H
omit [TabC] in
theorem pp_var {j : Nat} {x : Str} (hN : X.N[j]? = some x := by rfl) (hv : Vis X.env.scope x := by first | exact Or.inl rfl | exact Or.inr (Or.inl rfl) | exact Or.inr (Or.inr rfl)) (hd : (x == ("__debug__" : Str)) = false := by decide) (hcd : (x == ("__classdict__" : Str)) = false := by decide) : PE X (.Name x pos) (tPath j []) := by
  have h := pe_var (X := X) (pos := pos) (i := j) hN hv hd hcd
  exact ⟨fun pins s σ H Q I ⟨v, w, e, a, q⟩ => h.run pins s σ H Q I ⟨v, e, by rw [← (show w = v from a)]; exact q⟩⟩
omit [TabC] in
theorem pp_l {j i k : Nat} {st : List Stp} {e : Expr} {p' : Pos} (h : PE X e (tPath j st)) (hx : PlainIx (.Constant (.int (i : Int)) k p') := by exact fun _ _ => rfl) : PE X (.Subscript e (.Constant (.int (i : Int)) k p') pos) (tPath j (st ++ [.l i])) := by
  have h2 := pe_ix (X := X) (pos := pos) ix_list h pe_int hx
  refine ⟨fun pins s σ H Q I ⟨v, w, e1, a, q⟩ => h2.run pins s σ H Q I ?_⟩
  obtain ⟨r, vs, a1, a2, a3⟩ := AdV.snocL a
  exact ⟨v, .ref r, e1, a1, r, vs, (i : Int), w, rfl, rfl, SqL.of a2, atI_nat a3, q⟩
omit [TabC] in
theorem pp_t {j i k : Nat} {st : List Stp} {e : Expr} {p' : Pos} (h : PE X e (tPath j st)) (hx : PlainIx (.Constant (.int (i : Int)) k p') := by exact fun _ _ => rfl) : PE X (.Subscript e (.Constant (.int (i : Int)) k p') pos) (tPath j (st ++ [.t i])) := by
  have h2 := pe_ix (X := X) (pos := pos) ix_tup h pe_int hx
  refine ⟨fun pins s σ H Q I ⟨v, w, e1, a, q⟩ => h2.run pins s σ H Q I ?_⟩
  obtain ⟨r, vs, a1, a2, a3⟩ := AdV.snocT a
  exact ⟨v, .ref r, e1, a1, r, vs, (i : Int), w, rfl, rfl, SqT.of a2, atI_nat a3, q⟩
/-! ### reading, building -/
theorem ee_tree {i : Nat} {x : Str} {g : S → Option α} {w : α → S → S} (l : LT ss i T g w) (hN : X.N[i]? = some x := by rfl) (hv : Vis X.env.scope x := by first | exact Or.inl rfl | exact Or.inr (Or.inl rfl) | exact Or.inr (Or.inr rfl))
    (hd : (x == ("__debug__" : Str)) = false := by decide) (hcd : (x == ("__classdict__" : Str)) = false := by decide) : EE X xr W ss (.Name x pos) (trn T.rt) (cV g) := by
  refine ⟨_, pe_var hN hv hd hcd, fun F0 B F H σ s Q a hw => ?_⟩
  obtain ⟨x, e, hw⟩ := Want.opt hw
  obtain ⟨v, fp, h1, _, _, h2, _⟩ := l.get a.r e
  exact ⟨v, h1, hw v F H (.refl a.fh) (T.fix h2 a.fh)⟩
theorem EE.lf {e : Expr} {R : RT X.K α} {m : S → Res α} (h : EE X xr W ss e (pers R) m) : EE X xr W ss e (frT (tLf R)) m := h.same fun _ _ _ _ _ _ hp => ⟨[], List.nodup_nil, fun _ z => absurd z (by simp), hp, rfl⟩
theorem trs_lf {K : PySem.W.Frag} {R : RT K α} {F H : Hp} : ∀ {vs : List V} {as : List α}, Ps R F vs as → Trs (tLf R) F H vs as []
  | _, _, .nil => .nil
  | _, _, .cons h t => Trs.cons (f := []) (fs := []) ⟨h, rfl⟩ (trs_lf t)
theorem EE.ft {e : Expr} {R : RT X.K α} {m : S → Res (List α)} (h : EE X xr W ss e (fre R) m) : EE X xr W ss e (frT (tLs (tLf R))) m := h.same fun _ _ _ _ _ _ hp => by
  obtain ⟨p, vs, ev, h0, h1, hf, ps⟩ := hp
  exact ⟨[p], List.nodup_cons.mpr ⟨by simp, List.nodup_nil⟩, fun q hq => by
    rw [List.mem_singleton.mp hq]
    exact ⟨h0, hf, by rw [h1]; exact fun z => nomatch z⟩, p, vs, [], ev, h1, trs_lf ps, rfl⟩
def kLT {K : PySem.W.Frag} (T : TT K α) (n : Nat) : RK K (List V) (List α) := ⟨fun H0 F H vs as => ∃ fp, fp.Nodup ∧ (∀ p ∈ fp, H0 p = none ∧ F p = none ∧ H p ≠ none) ∧ Trs T F H vs as fp ∧ vs.length = n, fun {H0 F H F' H' v a} s g h => by
    obtain ⟨fp, nd, k, r, l⟩ := h
    exact ⟨fp, nd, fun p hp => ⟨(k p hp).1, by rw [g.eq p (k p hp).2.2]; exact (k p hp).2.1, g.hh.some (k p hp).2.2⟩, r.st (g.ff s) fun p _ o e n => g.hh.k e n, l⟩, fun s h => by
    obtain ⟨fp, nd, k, r⟩ := h
    exact ⟨fp, nd, fun p hp => ⟨s.free (k p hp).1, (k p hp).2⟩, r⟩⟩
theorem llT_nil : AA X xr W ss [] (kLT T 0) lNil := ⟨_, pa_nil, fun F0 B F H σ s Q at0 hw => hw [] F H (.refl at0.fh) ⟨[], List.nodup_nil, fun _ z => absurd z (by simp), .nil, rfl⟩⟩
theorem llT_cons {n : Nat} {e : Expr} {es : List Expr} {m : S → Res α} {m' : S → Res (List α)} (h : EE X xr W ss e (frT T) m) (h' : AA X xr W ss es (kLT T n) m') (hs : starEach (e :: es) X.env = (false, eval e X.env) :: starEach es X.env := by rfl) : AA X xr W ss (e :: es) (kLT T (n + 1)) (lCons m m') := by
  obtain ⟨t, p, d⟩ := h.ex
  obtain ⟨t', p', d'⟩ := h'.ex
  refine ⟨_, pa_cons p p' hs, fun F0 B F H σ s Q at0 hw => ?_⟩
  refine d.go at0 hw fun a v F1 H1 _ at1 g1 p1 hw1 => ?_
  refine d'.go at1 hw1 fun b u F2 H2 _ at2 g2 p2 hw2 => ?_
  obtain ⟨fp, nd, k, r⟩ := p1
  obtain ⟨fq, nq, kq, rq, lq⟩ := p2
  refine hw2.here at2.fh ⟨fp ++ fq, List.nodup_append.mpr ⟨nd, nq, fun x hx y hy c => ?_⟩, fun q hq => ?_, .cons (T.st r (g2.ff at1.fh) fun q _ o e n => g2.hh.k e n) rq, congrArg (· + 1) lq⟩
  · subst c
    exact (k x hx).2.2 (kq x hy).1
  · rcases List.mem_append.mp hq with c | c
    · exact ⟨(k q c).1, by rw [g2.eq q (k q c).2.2]; exact (k q c).2.1, g2.hh.some (k q c).2.2⟩
    · exact ⟨g1.hh.free (kq q c).1, (kq q c).2⟩
theorem ee_lstT {n : Nat} {es : List Expr} {m : S → Res (List α)} (h : AA X xr W ss es (kLT T n) m) (hn : n ≤ 1000 := by decide) : EE X xr W ss (.List es pos) (frT (tLs T)) m := by
  obtain ⟨t, p, d⟩ := h.ex
  refine ⟨_, pe_lst p, fun F0 B F H σ s Q at0 hw => d _ _ _ _ _ _ _ at0 ?_⟩
  cases e : m s with
  | ok as =>
    rw [e] at hw
    intro vs F1 H1 g hp
    obtain ⟨fp, nd, k, r, l⟩ := hp
    refine ⟨Nat.le_trans (by rw [l]; exact hn) (by decide), fun q hq => hw _ F1 _ (g.trans (.newH g.fh hq)) ⟨q :: fp, List.nodup_cons.mpr ⟨fun c => (k q c).2.2 hq, nd⟩, fun z hz => ?_, q, vs, fp, rfl, upd_same, r.st (.refl F1) fun z hz o e n => ?_, rfl⟩⟩
    · rcases List.mem_cons.mp hz with c | c
      · rw [c]
        exact ⟨g.hh.free hq, g.fh.free hq, by rw [upd_same]; exact fun z => nomatch z⟩
      · exact ⟨(k z c).1, (k z c).2.1, by rw [upd_ne fun y => (k z c).2.2 (by rw [y]; exact hq)]; exact (k z c).2.2⟩
    · rw [upd_ne (ne_of_none e hq)]
      exact e
  | er x =>
    rw [e] at hw
    exact hw
  | no =>
    rw [e] at hw
    exact hw
/-! ### statements -/
def oAppT (g : S → Option α) (get : α → Option (List β)) (set : α → List β → α) (w : α → S → S) (m : S → Res β) : S → Out S ρ := fun s => (ofOpt (g s)).out fun a => (ofOpt (get a)).out fun bs => (m s).out fun b => (appR bs b).out fun bs' => .nx (w (set a bs') s)
theorem s1_appT {i : Nat} {st : List Stp} {path e : Expr} {get : α → Option (List β)} {set : α → List β → α} {g : S → Option α} {w : α → S → S} {m : S → Res β} {p2 p3 : Pos} (l : LT ss i T g w) (fo : Foc T U st get set) (pp : PE X path (tPath i st)) (he : EE X xr W ss e (frT U) m)
    (hl : (p2.endLine == p3.line) = true := by rfl) (hs : starEach [e] X.env = (false, eval e X.env) :: starEach [] X.env := by rfl)
    (hm : ∀ (te : TE), PE X e te → PE X path (tPath i st) → PE X (.Call (.Attribute path "append" p2) [e] [] p3) (tBM X.K "list" rAppend (tPath i st) (tCons te tNil)) := by exact fun te h hp => pe_bm PySem.F.plainAttrs_list PySem.F.slot_list_append PySem.F.type_list_append mt_append hp (pa_cons h pa_nil))
    (hs2 : swapsWith (.Call (.Attribute path "append" p2) [e] [] p3) none pos.line X.env = pure false := by rfl) :
    S1J X xr W ss (.Expr (.Call (.Attribute path "append" p2) [e] [] p3) pos) ss P (oAppT g get set w m) := by
  obtain ⟨t, p, d⟩ := he.ex
  refine ⟨_, ps_expr (hm t p pp) hs2, fun F0 B F H σ s D a h => ?_⟩
  obtain ⟨x, eg, h⟩ := WantS.opt h
  obtain ⟨bs, eb, h⟩ := WantS.opt h
  obtain ⟨v, fp, e1, nd, k, r, up⟩ := l.get a.r eg
  obtain ⟨q, vs, fs, ad, hq, hl, tu, hfs, kk⟩ := fo.foc r nd eb
  refine ⟨v, .ref q, e1, ad, .inl ⟨rfl, _, .inl (.inl hl)⟩, ?_⟩
  refine d.goS a h fun y u F1 H1 _ at1 g1 p1 hw1 => ?_
  obtain ⟨hc, hw1⟩ := WantS.grd hw1
  have hc : bs.length < 16777216 := of_decide_eq_true hc
  obtain ⟨fw, nw, kw, ru⟩ := p1
  have hl1 : H1 q = some (.lst vs) := g1.hh.k hl
  refine ⟨q, vs, u, rfl, rfl, hl1, by rw [sizeLine_eq, tu.len]; exact hc, ?_⟩
  have fwq : ∀ z ∈ fw, z ≠ q := fun z hz c => by
    have := (kw z hz).1
    rw [c, hl] at this
    cases this
  have tu1 : Trs U F1 (upd H1 q (.lst (vs ++ [u]))) vs bs fs := tu.st (g1.ff a.fh) fun z hz o e n => by
    rw [upd_ne (hfs z hz).2]
    exact g1.hh.k e n
  have ru1 : U.r F1 (upd H1 q (.lst (vs ++ [u]))) u y fw := U.st ru (.refl F1) fun z hz o e n => by
    rw [upd_ne (fwq z hz)]
    exact e
  have rT : T.r F1 H1 v x fp := T.st r (g1.ff a.fh) fun z hz o e n => g1.hh.k e n
  obtain ⟨q', vs', fs', ad', hq', hl', tu', hfs', kk'⟩ := fo.foc rT nd eb
  have eq : q' = q := by
    have := AdV.det ad' (ad.mono g1.hh)
    cases this
    rfl
  subst eq
  have evs : vs' = vs := by
    rw [hl1] at hl'
    cases hl'
    rfl
  subst evs
  have tu2 : Trs U F1 (upd H1 q' (.lst (vs' ++ [u]))) vs' bs fs' := tu'.st (.refl F1) fun z hz o e n => by
    rw [upd_ne (hfs' z hz).2]
    exact e
  obtain ⟨fp', pm, rf⟩ := kk' (upd H1 q' (.lst (vs' ++ [u]))) (vs' ++ [u]) (bs ++ [y]) (fs' ++ fw) fw (fun z hz ne o e n => by rw [upd_ne ne]; exact e) upd_same (tu2.app (Trs.one ru1)) (.refl _)
  have dj : ∀ z ∈ fp, ∀ y ∈ fw, z ≠ y := fun z hz y hy c => by
    subst c
    exact (k z hz).2.2.2 (kw z hy).1
  have B0 : ∀ z, H z = none → B z = none := fun z hz => a.seen.free hz
  refine hw1 F1 _ σ (.refl F1) ⟨at1.g.change ?_ ?_ hl1, at1.t, up fw fp' q' _ _ a.fh g1 (fun z hz => ⟨B0 z (kw z hz).1, (kw z hz).1, (kw z hz).2.1, (kw z hz).2.2, by simp⟩) hq pm (pm.nodup_iff.mpr (List.nodup_append.mpr ⟨nd, nw, fun z hz y hy => dj z hz y hy⟩)) rf⟩
  · exact (k q' hq).1
  · rw [g1.eq q' (k q' hq).2.2.2]
    exact (k q' hq).2.2.1
theorem s1_setT {i : Nat} {x : Str} {e : Expr} {g : S → Option α} {w : α → S → S} {m : S → Res α} {pos' : Pos} (l : LT ss i T g w) (he : EE X xr W ss e (frT T) m) (hN : X.N.Nodup) (hi : X.N[i]? = some x := by rfl) (hx : Loc X.env.scope x := by first | exact Or.inl rfl | exact Or.inr rfl)
    (hs : swapsWith e (some (.Name x pos')) pos.line X.env = pure false := by rfl) (hf : X.fn x = true ∨ X.env.scope.names.lookup x = some .local := by first | exact Or.inl rfl | exact Or.inr rfl) : S1J X xr W ss (.Assign [.Name x pos'] e pos) ss P (oSet w m) := by
  obtain ⟨t, p, d⟩ := he.ex
  refine ⟨_, ps_set hN hi hx p hs hf, fun F0 B F H σ s D a h => ?_⟩
  refine d.goS a h fun x v F1 H1 _ at1 g1 p1 hw1 => ?_
  obtain ⟨fp, nd, k, r⟩ := p1
  exact hw1 F1 H1 _ (.refl F1) ⟨at1.g, at1.t, l.set a.r a.fh g1 nd (fun q hq => ⟨a.seen.free (k q hq).1, (k q hq).1, (k q hq).2.1, (k q hq).2.2, by simp⟩) r⟩
end
section
variable {α β S ρ : Type}
@[simp] theorem oAppT_ap (g : S → Option α) (get : α → Option (List β)) (set : α → List β → α) (w : α → S → S) (m : S → Res β) (s : S) : (oAppT g get set w m s : Out S ρ) = (ofOpt (g s)).out fun a => (ofOpt (get a)).out fun bs => (m s).out fun b => (appR bs b).out fun bs' => .nx (w (set a bs') s) := (rfl)
@[simp] theorem getL_ap (i : Nat) (get : α → Option (List β)) (as : List α) : getL i get as = as[i]?.bind get := (rfl)
@[simp] theorem setL_ap (i : Nat) (set : α → List β → α) (as : List α) (bs : List β) : setL i set as bs = match as[i]? with
  | some a => as.set i (set a bs)
  | none => as := (rfl)
end
end Y


set_option Elab.async false
set_option linter.all false
set_option autoImplicit false
set_option maxRecDepth 100000
set_option maxHeartbeats 2000000
/-! Y22: views where an exception is handled. -/
namespace Y
open PySem PySem.Spec PyProof.Rows L2
theorem Bot.v [TabC] {K : PySem.W.Frag} {S α : Type} {R : RT K α} {ss : SS K S} {n : Nat} {b : S} (h : Bot ss n b) : Bot (sB R ss) (n + 1) (none, b) := ⟨fun B acc F H σ hl => by
  cases σ with
  | nil => cases hl
  | cons x σ => exact ⟨x, σ, rfl, fun a z => (by cases z), h.b B acc F H σ (by simpa using hl)⟩⟩
end Y


set_option linter.all false
set_option autoImplicit false
set_option maxRecDepth 100000
/-! The mirrors of law_k22_errors: printed by pyw.py out of the linked text. -/
namespace Z
open PySem Y

def cat_BadBound : Exn → Bool := fun e => match e with | .bound _ => true | _ => false
def cat_BadLink : Exn → Bool := fun e => match e with | .link _ => true | _ => false
def cat_BadNews : Exn → Bool := fun e => match e with | .news _ => true | _ => false
def cat_BadNumber : Exn → Bool := fun e => match e with | .num _ => true | _ => false
def cat_BadPlan : Exn → Bool := fun e => match e with | .plan _ => true | _ => false
def cat_BadText : Exn → Bool := fun e => match e with | .text _ => true | _ => false
def cat_NoPlan : Exn → Bool := fun e => match e with | .noplan _ => true | _ => false
def cat_WrongError : Exn → Bool := fun e => true
abbrev S_l_cell : Type := Option (List Int) × Option Int × Option Int × Option Int × Unit
def b_l_cell_L1 : S_l_cell → Out S_l_cell Int :=
  (oSet (ws (ws wz)) (b2 modR (cCall idR (aCons (b2 addR (b2 addR (b2 mulR (cV (gs (gs gz))) (cK (48271 : Int))) (b2 modR (cCall idR (aCons (cV (gs (gs (gs gz)))) aNil)) (cK (2147483647 : Int)))) (cV (gs gz))) aNil)) (cK (2147483647 : Int))))
def b_l_cell : S_l_cell → Out S_l_cell Int :=
  (oSeq (oIf (b2 ltR (cV (gs gz)) (cCall lenR (aCons (cV gz) aNil))) (oRet (cCall idR (aCons (b2 ixR (cV gz) (cV (gs gz))) aNil))) oNx) (oSeq (oSet (ws (ws wz)) (b2 addR (b2 mulR (cV (gs gz)) (cK (7919 : Int))) (cK (12345 : Int)))) (oSeq (oFor (cCut (cV gz) (cK none) (cSome (cK (6 : Int)))) (ws (ws (ws wz))) b_l_cell_L1) (oRet (cV (gs (gs gz)))))))
def m_l_cell (a : (List Int) × Int × Unit) : Res Int := (b_l_cell (some a.1, some a.2.1, none, none, ())).fin

abbrev S_l_draw : Type := Option (List Int) × Option Int × Option Int × Option Int × Option Int × Option Int × Option Int × Unit
def b_l_draw_L1 : S_l_draw → Out S_l_draw Int :=
  (oSet (ws (ws (ws (ws wz)))) (b2 fdivR (cV (gs (gs (gs (gs gz))))) (cV (gs (gs (gs gz))))))
def b_l_draw : S_l_draw → Out S_l_draw Int :=
  (oSeq (oSet (ws (ws (ws (ws wz)))) (cCall m_l_cell (aCons (cV gz) (aCons (cV (gs gz)) aNil)))) (oSeq (oIf (b2 geR (cV (gs (gs (gs (gs gz))))) (b2 powR (cK (10 : Int)) (cK (18 : Int)))) (oSeq (oFor (cCall rng1 (aCons (cV (gs (gs gz))) aNil)) (ws (ws (ws (ws (ws wz))))) b_l_draw_L1) (oRet (b2 modR (cCall idR (aCons (cV (gs (gs (gs (gs gz))))) aNil)) (cV (gs (gs (gs gz))))))) oNx) (oSeq (oSet (ws (ws (ws (ws (ws (ws wz)))))) (b2 modR (cCall idR (aCons (b2 addR (b2 addR (b2 mulR (cV (gs (gs (gs (gs gz))))) (cK (48271 : Int))) (b2 mulR (cV (gs (gs gz))) (cK (69621 : Int)))) (cK (11 : Int))) aNil)) (cK (2147483647 : Int)))) (oRet (b2 modR (b2 modR (cCall idR (aCons (b2 addR (b2 mulR (cV (gs (gs (gs (gs (gs (gs gz))))))) (cK (16807 : Int))) (b2 mulR (cV (gs (gs gz))) (cK (40692 : Int)))) aNil)) (cK (2147483629 : Int))) (cV (gs (gs (gs gz)))))))))
def m_l_draw (a : (List Int) × Int × Int × Int × Unit) : Res Int := (b_l_draw (some a.1, some a.2.1, some a.2.2.1, some a.2.2.2.1, none, none, none, ())).fin

abbrev S_l_number : Type := Option (List Int) × Option Int × Option Int × Option Int × Option Int × Unit
def b_l_number : S_l_number → Out S_l_number Int :=
  (oSeq (oSet (ws (ws wz)) (b2 modR (cCall idR (aCons (cCall m_l_draw (aCons (cV gz) (aCons (cV (gs gz)) (aCons (cK (0 : Int)) (aCons (cK (60 : Int)) aNil))))) aNil)) (cK (6 : Int)))) (oSeq (oSet (ws (ws (ws wz))) (cCall m_l_draw (aCons (cV gz) (aCons (b2 addR (cV (gs gz)) (cK (1 : Int))) (aCons (cK (0 : Int)) (aCons (b2 powR (cK (10 : Int)) (cK (30 : Int))) aNil)))))) (oSeq (oSet (ws (ws (ws (ws wz)))) (b2 subR (cCall idR (aCons (cCall m_l_draw (aCons (cV gz) (aCons (b2 addR (cV (gs gz)) (cK (2 : Int))) (aCons (cK (0 : Int)) (aCons (cK (2001 : Int)) aNil))))) aNil)) (cK (1000 : Int)))) (oRet (b2 ixR (lCons (cK (0 : Int)) (lCons (cK (1 : Int)) (lCons (u1 negR (cK (1 : Int))) (lCons (cV (gs (gs (gs (gs gz))))) (lCons (cV (gs (gs (gs gz)))) (lCons (b2 subR (u1 negR (cK (1 : Int))) (cV (gs (gs (gs gz))))) lNil)))))) (cV (gs (gs gz))))))))
def m_l_number (a : (List Int) × Int × Unit) : Res Int := (b_l_number (some a.1, some a.2.1, none, none, none, ())).fin

abbrev S_l_numbers : Type := Option (List Int) × Option Int × Option Int × Option Int × Unit
def b_l_numbers_E1 : S_l_numbers → Res Int :=
  (cCall m_l_number (aCons (cV gz) (aCons (b2 addR (b2 addR (cV (gs gz)) (cK (1 : Int))) (b2 mulR (cK (3 : Int)) (cV (gs (gs (gs gz)))))) aNil)))
def b_l_numbers : S_l_numbers → Out S_l_numbers (List Int) :=
  (oSeq (oSet (ws (ws wz)) (b2 modR (cCall idR (aCons (cCall m_l_draw (aCons (cV gz) (aCons (cV (gs gz)) (aCons (cK (0 : Int)) (aCons (cK (60 : Int)) aNil))))) aNil)) (cK (6 : Int)))) (oRet (cComp (cCall rng1 (aCons (cV (gs (gs gz))) aNil)) (ws (ws (ws wz))) (cK true) b_l_numbers_E1)))
def m_l_numbers (a : (List Int) × Int × Unit) : Res (List Int) := (b_l_numbers (some a.1, some a.2.1, none, none, ())).fin

abbrev S_l_seen : Type := Option Exn × Option (List Str) × Option (Option (Int ⊕ (List Int))) × Unit
def b_l_seen : S_l_seen → Out S_l_seen ((List Str) × (Option (Int ⊕ (List Int))) × Bool) :=
  (oSeq (oSet (ws wz) lNil) (oSeq (oSet (ws (ws wz)) (cK none)) (oSeq (oIf (u1 (isxR cat_BadNumber) (cV gz)) (oSeq (oApp (gs gz) (ws wz) (cK (Str.ofString "BadNumber"))) (oSet (ws (ws wz)) (u1 wrapR (u1 inlR (u1 exNum (cV gz)))))) oNx) (oSeq (oIf (u1 (isxR cat_BadLink) (cV gz)) (oSeq (oApp (gs gz) (ws wz) (cK (Str.ofString "BadLink"))) (oSet (ws (ws wz)) (u1 wrapR (u1 inlR (u1 exLink (cV gz)))))) oNx) (oSeq (oIf (u1 (isxR cat_BadNews) (cV gz)) (oSeq (oApp (gs gz) (ws wz) (cK (Str.ofString "BadNews"))) (oSet (ws (ws wz)) (u1 oinlR (u1 exNews (cV gz))))) oNx) (oSeq (oIf (u1 (isxR cat_BadPlan) (cV gz)) (oSeq (oApp (gs gz) (ws wz) (cK (Str.ofString "BadPlan"))) (oSet (ws (ws wz)) (u1 wrapR (u1 inrR (u1 exPlan (cV gz)))))) oNx) (oSeq (oIf (u1 (isxR cat_BadBound) (cV gz)) (oSeq (oApp (gs gz) (ws wz) (cK (Str.ofString "BadBound"))) (oSet (ws (ws wz)) (u1 oinlR (u1 exBound (cV gz))))) oNx) (oSeq (oIf (u1 (isxR cat_NoPlan) (cV gz)) (oSeq (oApp (gs gz) (ws wz) (cK (Str.ofString "NoPlan"))) (oSet (ws (ws wz)) (u1 wrapR (u1 inrR (u1 exWit (cV gz)))))) oNx) (oSeq (oIf (u1 (isxR cat_BadText) (cV gz)) (oSeq (oApp (gs gz) (ws wz) (cK (Str.ofString "BadText"))) (oSet (ws (ws wz)) (u1 wrapR (u1 inlR (u1 exLine (cV gz)))))) oNx) (oRet (aCons (cV (gs gz)) (aCons (cV (gs (gs gz))) (tOne (u1 (isxR cat_WrongError) (cV gz)))))))))))))))
def m_l_seen (a : Exn × Unit) : Res ((List Str) × (Option (Int ⊕ (List Int))) × Bool) := (b_l_seen (some a.1, none, none, ())).fin

abbrev S_l_thrown : Type := Option Str × Option (Option Int) × Option Exn × Unit
def b_l_thrown_T1 : S_l_thrown → Out S_l_thrown ((List Str) × (Option (Int ⊕ (List Int))) × Bool) :=
  (oSeq (oIf (b2 eqR (cV gz) (cK (Str.ofString "BadNumber"))) (oRaise Exn.num (u1 ofOpt (cV (gs gz)))) oNx) (oSeq (oIf (b2 eqR (cV gz) (cK (Str.ofString "BadLink"))) (oRaise Exn.link (u1 ofOpt (cV (gs gz)))) oNx) (oSeq (oIf (b2 eqR (cV gz) (cK (Str.ofString "BadNews"))) (oRaise Exn.news (cV (gs gz))) oNx) (oSeq (oIf (b2 eqR (cV gz) (cK (Str.ofString "BadPlan"))) (fun _ => .no) oNx) (oSeq (oIf (b2 eqR (cV gz) (cK (Str.ofString "BadBound"))) (oRaise Exn.bound (cV (gs gz))) oNx) (oSeq (oIf (b2 eqR (cV gz) (cK (Str.ofString "NoPlan"))) (fun _ => .no) oNx) (oRaise Exn.text (u1 ofOpt (cV (gs gz))))))))))
def b_l_thrown_H1 : S_l_thrown → Out S_l_thrown ((List Str) × (Option (Int ⊕ (List Int))) × Bool) :=
  (oRet (cCall m_l_seen (aCons (cV (gs (gs gz))) aNil)))
def b_l_thrown : S_l_thrown → Out S_l_thrown ((List Str) × (Option (Int ⊕ (List Int))) × Bool) :=
  (oTry b_l_thrown_T1 cat_WrongError (oSu b_l_thrown_H1 (ws (ws wz)) (none, none, none, ())))
def m_l_thrown (a : Str × (Option Int) × Unit) : Res ((List Str) × (Option (Int ⊕ (List Int))) × Bool) := (b_l_thrown (some a.1, some a.2.1, none, ())).fin

abbrev S_l_is_integer : Type := Option Int × Unit
def b_l_is_integer : S_l_is_integer → Out S_l_is_integer Bool :=
  (oRet (andR (cCall (isiR true) (aCons (cV gz) (aCons (cK ()) aNil))) (notR (cCall (isiR false) (aCons (cV gz) (aCons (cK ()) aNil))))))
def m_l_is_integer (a : Int × Unit) : Res Bool := (b_l_is_integer (some a.1, ())).fin

abbrev S_l_keeps_number : Type := Option Str × Option (Option Int) × Option ((List Str) × (Option (Int ⊕ (List Int))) × Bool) × Unit
def b_l_keeps_number : S_l_keeps_number → Out S_l_keeps_number Bool :=
  (oSeq (oSet (ws (ws wz)) (cCall m_l_thrown (aCons (cV gz) (aCons (cV (gs gz)) aNil)))) (oSeq (oIf (orR (b2 neR (u1 (selR (fun a => a.1)) (cV (gs (gs gz)))) (lCons (cV gz) lNil)) (b2 notBR (u1 (selR (fun a => (fun a => (fun a => a) a.2) a.2)) (cV (gs (gs gz)))) (cK true))) (oRet (cK false)) oNx) (oSeq (oIf (b2 isNR (cV (gs gz)) (cK ())) (oRet (b2 isNR (u1 (selR (fun a => (fun a => a.1) a.2)) (cV (gs (gs gz)))) (cK ()))) oNx) (oRet (andR (cCall m_l_is_integer (aCons (u1 asLR (u1 ofOpt (u1 (selR (fun a => (fun a => a.1) a.2)) (cV (gs (gs gz)))))) aNil)) (b2 eqR (u1 asLR (u1 ofOpt (u1 (selR (fun a => (fun a => a.1) a.2)) (cV (gs (gs gz)))))) (u1 ofOpt (cV (gs gz)))))))))
def m_l_keeps_number (a : Str × (Option Int) × Unit) : Res Bool := (b_l_keeps_number (some a.1, some a.2.1, none, ())).fin

abbrev S_l_thrown_1 : Type := Option Str × Option (List Int) × Option Exn × Unit
def b_l_thrown_1_T1 : S_l_thrown_1 → Out S_l_thrown_1 ((List Str) × (Option (Int ⊕ (List Int))) × Bool) :=
  (oSeq (oIf (b2 eqR (cV gz) (cK (Str.ofString "BadNumber"))) (fun _ => .no) oNx) (oSeq (oIf (b2 eqR (cV gz) (cK (Str.ofString "BadLink"))) (fun _ => .no) oNx) (oSeq (oIf (b2 eqR (cV gz) (cK (Str.ofString "BadNews"))) (fun _ => .no) oNx) (oSeq (oIf (b2 eqR (cV gz) (cK (Str.ofString "BadPlan"))) (oRaise Exn.plan (cV (gs gz))) oNx) (oSeq (oIf (b2 eqR (cV gz) (cK (Str.ofString "BadBound"))) (fun _ => .no) oNx) (oSeq (oIf (b2 eqR (cV gz) (cK (Str.ofString "NoPlan"))) (oRaise Exn.noplan (cV (gs gz))) oNx) (fun _ => .no)))))))
def b_l_thrown_1_H1 : S_l_thrown_1 → Out S_l_thrown_1 ((List Str) × (Option (Int ⊕ (List Int))) × Bool) :=
  (oRet (cCall m_l_seen (aCons (cV (gs (gs gz))) aNil)))
def b_l_thrown_1 : S_l_thrown_1 → Out S_l_thrown_1 ((List Str) × (Option (Int ⊕ (List Int))) × Bool) :=
  (oTry b_l_thrown_1_T1 cat_WrongError (oSu b_l_thrown_1_H1 (ws (ws wz)) (none, none, none, ())))
def m_l_thrown_1 (a : Str × (List Int) × Unit) : Res ((List Str) × (Option (Int ⊕ (List Int))) × Bool) := (b_l_thrown_1 (some a.1, some a.2.1, none, ())).fin

abbrev S_l_same_list : Type := Option (List Int) × Option (List Int) × Option Int × Unit
def b_l_same_list_L1 : S_l_same_list → Out S_l_same_list Bool :=
  (oIf (orR (notR (cCall m_l_is_integer (aCons (b2 ixR (cV gz) (cV (gs (gs gz)))) aNil))) (b2 neR (b2 ixR (cV gz) (cV (gs (gs gz)))) (b2 ixR (cV (gs gz)) (cV (gs (gs gz)))))) (oRet (cK false)) oNx)
def b_l_same_list : S_l_same_list → Out S_l_same_list Bool :=
  (oSeq (oIf (orR (notR (cCall (isiR true) (aCons (cV gz) (aCons (cK ()) aNil)))) (b2 neR (cCall lenR (aCons (cV gz) aNil)) (cCall lenR (aCons (cV (gs gz)) aNil)))) (oRet (cK false)) oNx) (oSeq (oFor (cCall rng1 (aCons (cCall lenR (aCons (cV (gs gz)) aNil)) aNil)) (ws (ws wz)) b_l_same_list_L1) (oRet (cK true))))
def m_l_same_list (a : (List Int) × (List Int) × Unit) : Res Bool := (b_l_same_list (some a.1, some a.2.1, none, ())).fin

abbrev S_l_keeps_list : Type := Option Str × Option (List Int) × Option (List Int) × Option (List (List Int)) × Option ((List Str) × (Option (Int ⊕ (List Int))) × Bool) × Option ((List Str) × (Option (Int ⊕ (List Int))) × Bool) × Unit
def b_l_keeps_list : S_l_keeps_list → Out S_l_keeps_list Bool :=
  (oSeq (oSet (ws (ws (ws wz))) (lCons (cCall idR (aCons (cV (gs gz)) aNil)) (lCons (cCall idR (aCons (cV (gs (gs gz))) aNil)) lNil))) (oSeq (oSet (ws (ws (ws (ws wz)))) (cCall m_l_thrown_1 (aCons (cV gz) (aCons (b2 ixR (cV (gs (gs (gs gz)))) (cK (0 : Int))) aNil)))) (oSeq (oSet (ws (ws (ws (ws (ws wz))))) (cCall m_l_thrown_1 (aCons (cV gz) (aCons (b2 ixR (cV (gs (gs (gs gz)))) (cK (1 : Int))) aNil)))) (oSeq (oIf (orR (b2 neR (u1 (selR (fun a => a.1)) (cV (gs (gs (gs (gs gz)))))) (lCons (cV gz) lNil)) (orR (b2 neR (u1 (selR (fun a => a.1)) (cV (gs (gs (gs (gs (gs gz))))))) (lCons (cV gz) lNil)) (orR (b2 notBR (u1 (selR (fun a => (fun a => (fun a => a) a.2) a.2)) (cV (gs (gs (gs (gs gz)))))) (cK true)) (b2 notBR (u1 (selR (fun a => (fun a => (fun a => a) a.2) a.2)) (cV (gs (gs (gs (gs (gs gz))))))) (cK true))))) (oRet (cK false)) oNx) (oSeq (oIf (orR (b2 neR (b2 ixR (cV (gs (gs (gs gz)))) (cK (0 : Int))) (cV (gs gz))) (b2 neR (b2 ixR (cV (gs (gs (gs gz)))) (cK (1 : Int))) (cV (gs (gs gz))))) (oRet (cK false)) oNx) (oSeq (oAppT (gs (gs (gs gz))) (getL 0 some) (setL 0 (fun _ bs => bs)) (ws (ws (ws wz))) (cK (7 : Int))) (oSeq (oAppT (gs (gs (gs gz))) (getL 1 some) (setL 1 (fun _ bs => bs)) (ws (ws (ws wz))) (cK (8 : Int))) (oRet (andR (cCall m_l_same_list (aCons (u1 asRR (u1 ofOpt (u1 (selR (fun a => (fun a => a.1) a.2)) (cV (gs (gs (gs (gs gz)))))))) (aCons (cV (gs gz)) aNil))) (cCall m_l_same_list (aCons (u1 asRR (u1 ofOpt (u1 (selR (fun a => (fun a => a.1) a.2)) (cV (gs (gs (gs (gs (gs gz))))))))) (aCons (cV (gs (gs gz))) aNil))))))))))))
def m_l_keeps_list (a : Str × (List Int) × (List Int) × Unit) : Res Bool := (b_l_keeps_list (some a.1, some a.2.1, some a.2.2.1, none, none, none, ())).fin

abbrev S_law : Type := Option (List Int) × Option Int × Option (List Int) × Option (List Int) × Option Str × Unit
def b_law_L1 : S_law → Out S_law Bool :=
  (oIf (notR (cCall m_l_keeps_number (aCons (cV (gs (gs (gs (gs gz))))) (aCons (u1 wrapR (cV (gs gz))) aNil)))) (oRet (cK false)) oNx)
def b_law_L2 : S_law → Out S_law Bool :=
  (oIf (notR (cCall m_l_keeps_number (aCons (cV (gs (gs (gs (gs gz))))) (aCons (cK none) aNil)))) (oRet (cK false)) oNx)
def b_law : S_law → Out S_law Bool :=
  (oSeq (oSet (ws wz) (cCall m_l_number (aCons (cV gz) (aCons (cK (0 : Int)) aNil)))) (oSeq (oSet (ws (ws wz)) (cCall m_l_numbers (aCons (cV gz) (aCons (cK (3 : Int)) aNil)))) (oSeq (oSet (ws (ws (ws wz))) (cCall m_l_numbers (aCons (cV gz) (aCons (cK (19 : Int)) aNil)))) (oSeq (oIf (b2 eqR (b2 modR (cCall idR (aCons (cCall m_l_draw (aCons (cV gz) (aCons (cK (35 : Int)) (aCons (cK (0 : Int)) (aCons (cK (60 : Int)) aNil))))) aNil)) (cK (4 : Int))) (cK (0 : Int))) (oSet (ws (ws (ws wz))) (cCall idR (aCons (cV (gs (gs gz))) aNil))) oNx) (oSeq (oFor (lCons (cK (Str.ofString "BadNumber")) (lCons (cK (Str.ofString "BadLink")) (lCons (cK (Str.ofString "BadNews")) (lCons (cK (Str.ofString "BadBound")) (lCons (cK (Str.ofString "BadText")) lNil))))) (ws (ws (ws (ws wz)))) b_law_L1) (oSeq (oFor (lCons (cK (Str.ofString "BadNews")) (lCons (cK (Str.ofString "BadBound")) lNil)) (ws (ws (ws (ws wz)))) b_law_L2) (oRet (andR (cCall m_l_keeps_list (aCons (cK (Str.ofString "BadPlan")) (aCons (cV (gs (gs gz))) (aCons (cV (gs (gs (gs gz)))) aNil)))) (cCall m_l_keeps_list (aCons (cK (Str.ofString "NoPlan")) (aCons (cV (gs (gs gz))) (aCons (cV (gs (gs (gs gz)))) aNil))))))))))))
def m_law (a : (List Int) × Unit) : Res Bool := (b_law (some a.1, none, none, none, none, ())).fin

end Z


set_option Elab.async false
set_option linter.all false
set_option autoImplicit false
set_option maxRecDepth 100000
set_option maxHeartbeats 2000000
/-! D0: lists and numbers. -/
namespace Y
section
variable {α β : Type}
def EndsIn (p : Int) (E : List (Int × Int)) : Prop := ∀ e ∈ E, (0 ≤ e.1 ∧ e.1 < p) ∧ 0 ≤ e.2 ∧ e.2 < p
theorem guard_dec {c : Prop} [Decidable c] {a : α} (h : c) : guardR (decide c) a = .ok a := by
  rw [decide_eq_true h]
  rfl
theorem ix_at {as : List α} {x : Int} (j : Nat) (e : x = j) (h : j < as.length) : ixR as x = .ok as[j] := by
  subst e
  exact ix_ok (atI_get h)
theorem ix_last (as : List α) (a : α) : ixR (as ++ [a]) (-1) = .ok a := by
  refine ix_ok ?_
  have : L2.ixN (as ++ [a]).length (-1) = some as.length := by
    unfold L2.ixN
    rw [if_neg (by omega), if_pos (by rw [List.length_append]; simp; omega)]
    simp
    omega
  unfold L2.atI
  rw [this]
  simp
/-- the sums of the first items -/
def sums (l : List Int) : List Int := (List.range (l.length + 1)).map fun k => (l.take k).sum
theorem sums_length (l : List Int) : (sums l).length = l.length + 1 := by simp [sums]
theorem sums_get (l : List Int) (k : Nat) (h : k < (sums l).length) : (sums l)[k] = (l.take k).sum := by simp [sums]
theorem sums_snoc (l : List Int) (a : Int) : sums (l ++ [a]) = sums l ++ [l.sum + a] := by
  unfold sums
  rw [List.length_append, List.length_singleton, List.range_succ, List.map_append]
  congr 1
  · refine List.map_congr_left fun k hk => ?_
    have hk := List.mem_range.mp hk
    rw [List.take_append_of_le_length (by omega)]
  · simp [List.take_of_length_le]
theorem sums_last (l : List Int) : ∃ m, sums l = m ++ [l.sum] := by
  unfold sums
  rw [List.range_succ, List.map_append]
  exact ⟨(List.range l.length).map fun k => (l.take k).sum, by rw [List.map_singleton, List.take_length]⟩
theorem take_succ_sum (l : List Int) (k : Nat) (h : k < l.length) : (l.take (k + 1)).sum = (l.take k).sum + l[k] := by
  rw [List.take_succ_eq_append_getElem h, List.sum_append]
  simp
theorem sums_zero (l : List Int) : (sums l)[0]'(by rw [sums_length]; omega) = 0 := by rw [sums_get]; simp
/-- a loop whose turns all keep I -/
theorem forA {S S' ρ : Type} {f : α → S → Out S ρ} {k : S → Out S' ρ} {G : Out S' ρ → Prop} {as : List α} {s : S} (I : S → Prop) (h0 : I s) (step : ∀ a s, a ∈ as → I s → ∃ s', f a s = .nx s' ∧ I s') (hk : ∀ s', I s' → G (k s')) : G ((forM f as s).seq k) :=
  forL (fun _ s => I s) h0 (fun pre a post s e h => .inl (step a s (by rw [e]; simp) h)) hk
theorem erase_perm : ∀ (l : List α) (j : Nat) (h : j < l.length), (l[j] :: l.eraseIdx j).Perm l
  | a :: l, 0, _ => by simp
  | a :: l, j + 1, h => by
    have h' : j < l.length := by
      simp only [List.length_cons] at h
      omega
    simp only [List.getElem_cons_succ, List.eraseIdx_cons_succ]
    exact (List.Perm.swap a l[j] _).trans ((erase_perm l j h').cons a)
theorem rng_lt (lo : Int) (n : Nat) : (rng lo n).Pairwise (· < ·) := by
  unfold rng
  rw [List.pairwise_map]
  exact List.pairwise_lt_range.imp fun h => by omega
theorem nodup_sub {α : Type} [DecidableEq α] : ∀ {l m : List α}, l.Nodup → (∀ x ∈ l, x ∈ m) → l.length ≤ m.length
  | [], _, _, _ => Nat.zero_le _
  | x :: l, m, h, hm => by
    obtain ⟨h1, h2⟩ := List.nodup_cons.mp h
    have hx := hm x List.mem_cons_self
    have ih := nodup_sub (m := m.erase x) h2 fun y hy => (List.mem_erase_of_ne (show y ≠ x from fun e => h1 (by rw [← e]; exact hy))).mpr (hm y (List.mem_cons_of_mem _ hy))
    rw [List.length_erase_of_mem hx] at ih
    have := List.length_pos_of_mem hx
    rw [List.length_cons]
    omega
/-- the item at i -/
def gtI (as : List Int) (i : Int) : Int := as[i.toNat]?.getD 0
theorem ix_gt {as : List Int} {i : Int} (h0 : 0 ≤ i) (h : i < as.length) : ixR as i = .ok (gtI as i) := by
  rw [ix_pos h0 h]
  unfold gtI
  rw [List.getElem?_eq_getElem (by omega)]
  rfl
theorem gtI_nat {as : List Int} {i : Nat} (h : i < as.length) : gtI as (i : Int) = as[i] := by
  unfold gtI
  rw [Int.toNat_natCast, List.getElem?_eq_getElem h]
  rfl
theorem has_max : ∀ (as : List Int), as ≠ [] → ∃ m ∈ as, ∀ y ∈ as, y ≤ m
  | [], h => absurd rfl h
  | [a], _ => ⟨a, by simp, fun y hy => by rw [List.mem_singleton.mp hy]; exact Int.le_refl _⟩
  | a :: b :: as, _ => by
    obtain ⟨m, h1, h2⟩ := has_max (b :: as) (by simp)
    by_cases q : m ≤ a
    · refine ⟨a, by simp, fun y hy => ?_⟩
      rcases List.mem_cons.mp hy with z | z
      · omega
      · have := h2 y z
        omega
    · refine ⟨m, List.mem_cons_of_mem _ h1, fun y hy => ?_⟩
      rcases List.mem_cons.mp hy with z | z
      · omega
      · exact h2 y z
def gtE (E : List (Int × Int)) (i : Int) : Int × Int := E[i.toNat]?.getD (0, 0)
theorem ix_gtE {E : List (Int × Int)} {i : Int} (h0 : 0 ≤ i) (h : i < E.length) : ixR E i = .ok (gtE E i) := by
  rw [ix_pos h0 h]
  unfold gtE
  rw [List.getElem?_eq_getElem (by omega)]
  rfl
theorem gtE_mem {E : List (Int × Int)} {i : Int} (h0 : 0 ≤ i) (h : i < E.length) : gtE E i ∈ E := by
  unfold gtE
  rw [List.getElem?_eq_getElem (by omega)]
  exact List.getElem_mem _
end
end Y


set_option Elab.async false
set_option linter.all false
set_option autoImplicit false
set_option maxRecDepth 100000
set_option maxHeartbeats 2000000
/-! D18: loops that may raise; the first place of a kind. -/
namespace Y
section
variable {S S' α β ρ : Type}
theorem forG {f : α → S → Out S ρ} {k : S → Out S' ρ} {G : Out S' ρ → Prop} : ∀ {as : List α} {s : S} (I : List α → S → Prop), I as s → (∀ a as s, I (a :: as) s → (∃ s', f a s = .nx s' ∧ I as s') ∨ (∃ r, f a s = .rt r ∧ G (.rt r)) ∨ ∃ e, f a s = .er e ∧ G (.er e)) → (∀ s', I [] s' → G (k s')) → G ((forM f as s).seq k)
  | [], s, I, h0, _, hk => hk s h0
  | a :: as, s, I, h0, step, hk => by
    rw [forM_cons, seq_seq]
    rcases step a as s h0 with ⟨s', e, h⟩ | ⟨r, e, h⟩ | ⟨x, e, h⟩
    · rw [e, seq_nx]
      exact forG I h step hk
    · rw [e, seq_rt]
      exact h
    · rw [e, seq_er]
      exact h
/-- over a range from 0 -/
theorem forRG {f : Int → S → Out S ρ} {k : S → Out S' ρ} {G : Out S' ρ → Prop} {n : Nat} {s : S} (I : Nat → S → Prop) (h0 : I 0 s) (step : ∀ (i : Nat) s, i < n → I i s → (∃ s', f (i : Int) s = .nx s' ∧ I (i + 1) s') ∨ (∃ r, f (i : Int) s = .rt r ∧ G (.rt r)) ∨ ∃ e, f (i : Int) s = .er e ∧ G (.er e)) (hk : ∀ s', I n s' → G (k s')) : G ((forM f (rng 0 n) s).seq k) := by
  refine forG (fun as s => ∃ i, i ≤ n ∧ as = rng (i : Int) (n - i) ∧ I i s) ⟨0, Nat.zero_le _, by simp, h0⟩ ?_ ?_
  · rintro a as s ⟨i, hi, e, h⟩
    have hlt : i < n := by
      by_cases q : i < n
      · exact q
      · rw [show n - i = 0 by omega, rng_zero] at e
        cases e
    obtain ⟨m, hm⟩ : ∃ m, n - i = m + 1 := ⟨n - i - 1, by omega⟩
    rw [hm, rng_cons] at e
    injection e with e1 e2
    subst e1
    rcases step i s hlt h with ⟨s', q1, q2⟩ | q
    · refine .inl ⟨s', q1, i + 1, hlt, ?_, q2⟩
      rw [e2, show n - (i + 1) = m by omega, show (i : Int) + 1 = ((i + 1 : Nat) : Int) by omega]
    · exact .inr q
  · rintro s ⟨i, hi, e, h⟩
    have hl := congrArg List.length e
    rw [rng_length] at hl
    have e2 : i = n := by
      simp only [List.length_nil] at hl
      omega
    subst e2
    exact hk s h
theorem enumL_from (as : List α) (n : Nat) : (as.mapIdx fun i a => (((i + n : Nat) : Int), a)) = match as with
    | [] => []
    | a :: r => ((n : Int), a) :: (r.mapIdx fun i a => (((i + (n + 1) : Nat) : Int), a)) := by
  cases as with
  | nil => rfl
  | cons a r =>
    rw [List.mapIdx_cons, Nat.zero_add]
    congr 1
    congr 1
    funext i b
    congr 2
    omega
theorem enumL_drop (as : List α) (i : Nat) (h : i < as.length) : (enumL as).drop i = ((i : Int), as[i]) :: (enumL as).drop (i + 1) := by
  have hl : (enumL as).length = as.length := by unfold enumL; rw [List.length_mapIdx]
  rw [List.drop_eq_getElem_cons (by rw [hl]; exact h)]
  congr 1
  unfold enumL
  rw [List.getElem_mapIdx]
/-- over an enumeration -/
theorem forEG {f : Int × α → S → Out S ρ} {k : S → Out S' ρ} {G : Out S' ρ → Prop} {as : List α} {s : S} (I : Nat → S → Prop) (h0 : I 0 s) (step : ∀ (i : Nat) (h : i < as.length) s, I i s → (∃ s', f ((i : Int), as[i]) s = .nx s' ∧ I (i + 1) s') ∨ (∃ r, f ((i : Int), as[i]) s = .rt r ∧ G (.rt r)) ∨ ∃ e, f ((i : Int), as[i]) s = .er e ∧ G (.er e)) (hk : ∀ s', I as.length s' → G (k s')) : G ((forM f (enumL as) s).seq k) := by
  have hl : (enumL as).length = as.length := by unfold enumL; rw [List.length_mapIdx]
  refine forG (fun r s => ∃ i, i ≤ as.length ∧ r = (enumL as).drop i ∧ I i s) ⟨0, Nat.zero_le _, rfl, h0⟩ ?_ ?_
  · rintro a r s ⟨i, hi, e, h⟩
    have hlt : i < as.length := by
      by_cases q : i < as.length
      · exact q
      · rw [List.drop_of_length_le (by omega)] at e
        cases e
    rw [enumL_drop as i hlt] at e
    injection e with e1 e2
    subst e1
    rcases step i hlt s h with ⟨s', q1, q2⟩ | q
    · exact .inl ⟨s', q1, i + 1, hlt, e2, q2⟩
    · exact .inr q
  · rintro s ⟨i, hi, e, h⟩
    have hl2 := congrArg List.length e
    rw [List.length_drop, hl, List.length_nil] at hl2
    have e2 : i = as.length := by omega
    subst e2
    exact hk s h
/-- over a list, by what has been taken -/
theorem forLG {f : α → S → Out S ρ} {k : S → Out S' ρ} {G : Out S' ρ → Prop} {as : List α} {s : S} (I : List α → S → Prop) (h0 : I [] s) (step : ∀ pre a post s, as = pre ++ a :: post → I pre s → (∃ s', f a s = .nx s' ∧ I (pre ++ [a]) s') ∨ (∃ r, f a s = .rt r ∧ G (.rt r)) ∨ ∃ e, f a s = .er e ∧ G (.er e)) (hk : ∀ s', I as s' → G (k s')) : G ((forM f as s).seq k) := by
  refine forG (fun post s => ∃ pre, as = pre ++ post ∧ I pre s) ⟨[], rfl, h0⟩ ?_ ?_
  · rintro a post s ⟨pre, e, h⟩
    rcases step pre a post s e h with ⟨s', q1, q2⟩ | q
    · exact .inl ⟨s', q1, pre ++ [a], by rw [e, List.append_assoc, List.singleton_append], q2⟩
    · exact .inr q
  · rintro s ⟨pre, e, h⟩
    rw [List.append_nil] at e
    subst e
    exact hk s h
end
/-- the first i below n with P i -/
def fstP (P : Nat → Bool) : Nat → Option Nat
  | 0 => none
  | n + 1 => match fstP P n with
    | some i => some i
    | none => if P n = true then some n else none
theorem fstP_none {P : Nat → Bool} : ∀ {n : Nat}, (∀ j, j < n → P j = false) → fstP P n = none
  | 0, _ => rfl
  | n + 1, h => by
    unfold fstP
    rw [fstP_none fun j hj => h j (by omega)]
    show (if P n = true then some n else none) = none
    rw [h n (by omega)]
    rfl
theorem fstP_some {P : Nat → Bool} {i : Nat} (hi : P i = true) (hn : ∀ j, j < i → P j = false) : ∀ {n : Nat}, i < n → fstP P n = some i
  | 0, h => absurd h (Nat.not_lt_zero _)
  | n + 1, h => by
    unfold fstP
    by_cases q : i < n
    · rw [fstP_some hi hn q]
    · have e : i = n := by omega
      subst e
      rw [fstP_none hn]
      show (if P i = true then some i else none) = some i
      rw [if_pos hi]
theorem fstP_spec {P : Nat → Bool} : ∀ {n : Nat}, (fstP P n = none ∧ ∀ j, j < n → P j = false) ∨ ∃ i, fstP P n = some i ∧ i < n ∧ P i = true ∧ ∀ j, j < i → P j = false
  | 0 => .inl ⟨rfl, fun j h => absurd h (Nat.not_lt_zero _)⟩
  | n + 1 => by
    rcases fstP_spec (P := P) (n := n) with ⟨e, h⟩ | ⟨i, e, h1, h2, h3⟩
    · by_cases q : P n = true
      · exact .inr ⟨n, fstP_some q h (by omega), by omega, q, h⟩
      · have q : P n = false := by simpa using q
        exact .inl ⟨fstP_none fun j hj => by
          by_cases z : j = n
          · rw [z]
            exact q
          · exact h j (by omega), fun j hj => by
          by_cases z : j = n
          · rw [z]
            exact q
          · exact h j (by omega)⟩
    · exact .inr ⟨i, fstP_some h2 h3 (by omega), by omega, h2, h3⟩
theorem gtE_nat {E : List (Int × Int)} {i : Nat} (h : i < E.length) : gtE E (i : Int) = E[i] := by
  unfold gtE
  rw [Int.toNat_natCast, List.getElem?_eq_getElem h]
  rfl
end Y


set_option Elab.async false
set_option linter.all false
set_option autoImplicit false
set_option maxRecDepth 100000
set_option maxHeartbeats 2000000
/-! D1: the laws' draws. -/
namespace Z
open PySem L2 Y
theorem cell_ok (ns : List Int) (k : Int) (h0 : 0 ≤ k) : ∃ c, m_l_cell (ns, k, ()) = .ok c := by
  unfold m_l_cell b_l_cell
  by_cases h : k < ns.length
  · simp [h, ix_pos h0 h]
  · simp [h, mul_okr]
    refine seq_forN (G := fun o => ∃ c, o.fin = .ok c) (fun _ s => ∃ m x, s = (some ns, some k, some m, x, ())) ⟨_, _, rfl⟩ ?_ ?_
    · rintro a as s ⟨m, x, rfl⟩
      simp [b_l_cell_L1, mul_okr, mod_ok]
    · rintro s ⟨m, x, rfl⟩
      simp
theorem draw_ok (ns : List Int) (k p l : Int) (h0 : 0 ≤ k) (hp : 0 ≤ p ∧ p < 1000) (hl : 0 < l) (hl2 : l < 10 ^ 100) : ∃ c, m_l_draw (ns, k, p, l, ()) = .ok c ∧ 0 ≤ c ∧ c < l := by
  obtain ⟨c, hc⟩ := cell_ok ns k h0
  have fin (x : Int) : 0 ≤ x % l ∧ x % l < l := ⟨Int.emod_nonneg _ (by omega), Int.emod_lt_of_pos _ hl⟩
  unfold m_l_draw b_l_draw
  simp [hc, pow_ok]
  by_cases h : 10 ^ 18 ≤ c
  · have h : (1000000000000000000 : Int) ≤ c := h
    simp [h, rng1_ok (show -(2 ^ 62) ≤ p ∧ p < 2 ^ 62 by omega)]
    refine seq_forN (G := fun o => ∃ c, o.fin = .ok c ∧ 0 ≤ c ∧ c < l) (fun _ s => ∃ m x, s = (some ns, some k, some p, some l, some m, x, none, ())) ⟨_, _, rfl⟩ ?_ ?_
    · rintro a as s ⟨m, x, rfl⟩
      simp [b_l_draw_L1, fdiv_ok hl hl2]
    · rintro s ⟨m, x, rfl⟩
      simp [mod_ok hl, fin]
  · have h : ¬ (1000000000000000000 : Int) ≤ c := h
    simp [h, mul_okr, mod_ok, hl, fin]
/-- a drawn number -/
def drw (ns : List Int) (k p l : Int) : Int := match m_l_draw (ns, k, p, l, ()) with
  | .ok c => c
  | _ => 0
theorem draw_eq (ns : List Int) {k p l : Int} (h0 : 0 ≤ k) (hp : 0 ≤ p ∧ p < 1000) (hl : 0 < l) (hl2 : l < 10 ^ 100) : m_l_draw (ns, k, p, l, ()) = .ok (drw ns k p l) := by
  obtain ⟨c, hc, _⟩ := draw_ok ns k p l h0 hp hl hl2
  unfold drw
  rw [hc]
theorem drw_lt (ns : List Int) {k p l : Int} (h0 : 0 ≤ k) (hp : 0 ≤ p ∧ p < 1000) (hl : 0 < l) (hl2 : l < 10 ^ 100) : 0 ≤ drw ns k p l ∧ drw ns k p l < l := by
  obtain ⟨c, hc, h1, h2⟩ := draw_ok ns k p l h0 hp hl hl2
  unfold drw
  rw [hc]
  exact ⟨h1, h2⟩
end Z


set_option Elab.async false
set_option linter.all false
set_option autoImplicit false
set_option maxRecDepth 100000
set_option maxHeartbeats 2000000
/-! DI: whole numbers are told. -/
namespace Z
open PySem L2 Y
@[simp] theorem isint_ok (x : Int) : m_l_is_integer (x, ()) = .ok true := by
  unfold m_l_is_integer b_l_is_integer
  simp
end Z


set_option Elab.async false
set_option linter.all false
set_option autoImplicit false
set_option maxRecDepth 100000
set_option maxHeartbeats 2000000
/-! D20: more of draws. -/
namespace Z
open PySem L2 Y
theorem dr (ns : List Int) {k l : Int} (p : Int) (h0 : 0 ≤ k) (hl : 0 < l) (hl2 : l < 10 ^ 100) (hp : 0 ≤ p ∧ p < 1000) : m_l_draw (ns, k, p, l, ()) = .ok (drw ns k p l) := draw_eq ns h0 hp hl hl2
theorem d60 (ns : List Int) {k : Int} (h0 : 0 ≤ k) : m_l_draw (ns, k, 0, 60, ()) = .ok (drw ns k 0 60) := draw_eq ns h0 ⟨by decide, by decide⟩ (by decide) (by decide)
theorem d14400 (ns : List Int) {k : Int} (h0 : 0 ≤ k) : m_l_draw (ns, k, 0, 14400, ()) = .ok (drw ns k 0 14400) := draw_eq ns h0 ⟨by decide, by decide⟩ (by decide) (by decide)
theorem md {a b : Int} (h : 0 < b := by decide) : modR a b = .ok (a % b) := mod_ok h
theorem mds {a b : Int} (h : 0 < b := by decide) : 0 ≤ a % b ∧ a % b < b := ⟨Int.emod_nonneg _ (by omega), Int.emod_lt_of_pos _ h⟩
theorem fd {a b : Int} (h : 0 < b := by decide) (h2 : b < 10 ^ 100 := by decide) : fdivR a b = .ok (a / b) := fdiv_ok h h2
theorem pow10 (n : Nat) (h : n ≤ 100 := by decide) : powR 10 (n : Int) = .ok (10 ^ n) := by
  rw [pow_ok ⟨by omega, by omega, by decide⟩]
  rfl
/-- one of four limits -/
theorem lim4 (a b c d x : Int) : ∃ l, ixR [a, b, c, d] (x % 4) = .ok l ∧ (l = a ∨ l = b ∨ l = c ∨ l = d) := by
  have h1 : 0 ≤ x % 4 := Int.emod_nonneg _ (by omega)
  have h2 : x % 4 < 4 := Int.emod_lt_of_pos _ (by omega)
  obtain h | h | h | h : x % 4 = 0 ∨ x % 4 = 1 ∨ x % 4 = 2 ∨ x % 4 = 3 := by omega
  · rw [h]
    exact ⟨a, ix_ok rfl, .inl rfl⟩
  · rw [h]
    exact ⟨b, ix_ok rfl, .inr (.inl rfl)⟩
  · rw [h]
    exact ⟨c, ix_ok rfl, .inr (.inr (.inl rfl))⟩
  · rw [h]
    exact ⟨d, ix_ok rfl, .inr (.inr (.inr rfl))⟩
theorem compM_some' {α β : Type} {f : α → Res β} {as : List α} (hf : ∀ a ∈ as, ∃ y, f a = .ok y) : ∃ ys, compM (fun _ => .ok true) f as = .ok ys ∧ ys.length = as.length := by
  induction as with
  | nil => exact ⟨[], rfl, rfl⟩
  | cons a as ih =>
    obtain ⟨y, h⟩ := hf a List.mem_cons_self
    obtain ⟨ys, e, l⟩ := ih fun b hb => hf b (List.mem_cons_of_mem _ hb)
    refine ⟨y :: ys, ?_, by rw [List.length_cons, List.length_cons, l]⟩
    show (Res.calm (.ok true)).bind _ = _
    rw [calm_ok, bind_ok, if_pos rfl, h, calm_ok, bind_ok, e, bind_ok]
end Z


set_option Elab.async false
set_option linter.all false
set_option autoImplicit false
set_option maxRecDepth 100000
set_option maxHeartbeats 2000000
namespace Z
open PySem L2 Y
theorem thrown_num (x : Int) : m_l_thrown (Str.ofString "BadNumber", some x, ()) = .ok ([Str.ofString "BadNumber"], some (.inl x), true) := by rfl
theorem thrown_link (x : Int) : m_l_thrown (Str.ofString "BadLink", some x, ()) = .ok ([Str.ofString "BadLink"], some (.inl x), true) := by rfl
theorem thrown_text (x : Int) : m_l_thrown (Str.ofString "BadText", some x, ()) = .ok ([Str.ofString "BadText"], some (.inl x), true) := by rfl
theorem thrown_news (x : Int) : m_l_thrown (Str.ofString "BadNews", some x, ()) = .ok ([Str.ofString "BadNews"], some (.inl x), true) := by rfl
theorem thrown_bound (x : Int) : m_l_thrown (Str.ofString "BadBound", some x, ()) = .ok ([Str.ofString "BadBound"], some (.inl x), true) := by rfl
theorem thrown_news0 : m_l_thrown (Str.ofString "BadNews", none, ()) = .ok ([Str.ofString "BadNews"], none, true) := by rfl
theorem thrown_bound0 : m_l_thrown (Str.ofString "BadBound", none, ()) = .ok ([Str.ofString "BadBound"], none, true) := by rfl
theorem thrown_plan (l : List Int) : m_l_thrown_1 (Str.ofString "BadPlan", l, ()) = .ok ([Str.ofString "BadPlan"], some (.inr l), true) := by rfl
theorem thrown_noplan (l : List Int) : m_l_thrown_1 (Str.ofString "NoPlan", l, ()) = .ok ([Str.ofString "NoPlan"], some (.inr l), true) := by rfl
theorem isint (x : Int) : m_l_is_integer (x, ()) = .ok true := by rfl
theorem keeps_number {nm : Str} {x : Int} (h : m_l_thrown (nm, some x, ()) = .ok ([nm], some (.inl x), true)) : m_l_keeps_number (nm, some x, ()) = .ok true := by
  unfold m_l_keeps_number b_l_keeps_number
  simp [h, isint]
theorem keeps_none {nm : Str} (h : m_l_thrown (nm, none, ()) = .ok ([nm], none, true)) : m_l_keeps_number (nm, none, ()) = .ok true := by
  unfold m_l_keeps_number b_l_keeps_number
  simp [h]
theorem same_list (l : List Int) (hl : l.length ≤ 100) : m_l_same_list (l, l, ()) = .ok true := by
  unfold m_l_same_list b_l_same_list
  simp [rng1_len (show l.length ≤ 1000000 by omega)]
  refine forR (G := fun o => o.fin = .ok true) (fun i s => ∃ x, s = (some l, some l, x, ())) ⟨none, rfl⟩ ?_ ?_
  · rintro i s hi ⟨x, rfl⟩
    have hz : (0 : Int) + (i : Int) = i := Int.zero_add _
    rw [hz]
    refine .inl ⟨_, ?_, some (i : Int), rfl⟩
    simp [b_l_same_list_L1, ix_pos (as := l) (i := (i : Int)) (by omega) (by omega), isint]
  · rintro s ⟨x, rfl⟩
    simp
theorem keeps_list {nm : Str} {a b : List Int} (h : ∀ l, m_l_thrown_1 (nm, l, ()) = .ok ([nm], some (.inr l), true)) (ha : a.length ≤ 100) (hb : b.length ≤ 100) : m_l_keeps_list (nm, a, b, ()) = .ok true := by
  unfold m_l_keeps_list b_l_keeps_list
  simp [h, ix_pos, app_okR (a := a) (by omega), app_okR (a := b) (by omega), same_list a ha, same_list b hb]
theorem number_ok (ns : List Int) (k : Int) (h0 : 0 ≤ k) : ∃ z, m_l_number (ns, k, ()) = .ok z := by
  unfold m_l_number b_l_number
  have e1 := dr ns (k := k) (l := 60) 0 h0 (by decide) (by decide) ⟨by decide, by decide⟩
  have e2 := dr ns (k := k + 1) (l := 10 ^ 30) 0 (by omega) (by decide) (by decide) ⟨by decide, by decide⟩
  have e3 := dr ns (k := k + 2) (l := 2001) 0 (by omega) (by decide) (by decide) ⟨by decide, by decide⟩
  simp only [bind_ok, bind_er, bind_no, out_ok, out_er, out_no, seq_nx, seq_rt, seq_er, seq_no, fin_rt, fin_nx, fin_er, fin_no, finN_rt, finN_nx, finN_er, calm_ok, ofOpt_some, ofOpt_none, guard_true, guard_false, cV_ap, cK_ap, b2_ap, u1_ap, notR_ap, andR_ap, orR_ap, ifR_ap, aNil_ap, aCons_ap, lNil_ap, lCons_ap, tOne_ap, oNx_ap, oSet_ap, oRet_ap, oExp_ap, oIf_ap, oSeq_ap, oFor_ap, oApp_ap, oAug_ap, cComp_ap, cCall_ap, cSome_ap, cCut_ap, gz_ap, gs_ap, wz_ap, ws_ap, wPair_ap, forM_nil, forM_cons, compM_nil, addR_ap, subR_ap, negR_ap, ltR_ap, leR_ap, gtR_ap, geR_ap, eqR_ap, neR_ap, inR_ap, niR_ap, isBR_ap, notBR_ap, isNR_ap, notNR_ap, lenR_ap, idR_ap, absR_ap, sumR_ap, allR_ap, anyR_ap, sortR_ap, enumR_ap, isiR_ap, selR_ap, wrapR_ap, max2_ap, min2_ap, oSetI_ap, oAppPop_ap, oRem_ap, cChain_ap, sortDR_ap, cntR_ap, decide_true, decide_false, Bool.not_true, Bool.not_false, Bool.false_eq_true, if_true, if_false, ite_true, ite_false, reduceIte, not_true_eq_false, not_false_eq_true, oRaise_ap, exNum_ap, exLink_ap, exNews_ap, exBound_ap, exPlan_ap, exWit_ap, exLine_ap, wPair_g, md_2, md_3, md_4, md_5, md_6, md_7, md_8, md_9, md_10, md_11, md_12, md_13, md_14, md_15, md_16, md_17, md_18, md_20, md_24, md_25, md_30, md_40, md_50, md_60, md_61, md_62, md_63, md_100, md_1000, md_2001, fd_2, fd_3, fd_4, fd_5, fd_6, fd_7, fd_8, fd_9, fd_10, fd_20, fd_60, fd_120, fd_3600, fd_7200, pw_9, pw_18, pw_29, pw_30, pw_48, pw_49, pw_50, Int.reduceEq, Int.reduceLT, Int.reduceLE, e1, e2, e3]
  have q : 0 ≤ drw ns k 0 60 % 6 ∧ drw ns k 0 60 % 6 < 6 := ⟨Int.emod_nonneg _ (by decide), Int.emod_lt_of_pos _ (by decide)⟩
  rw [ix_gt q.1 (by simpa using q.2)]
  exact ⟨_, rfl⟩
theorem numbers_ok (ns : List Int) (k : Int) (h0 : 0 ≤ k) : ∃ l, m_l_numbers (ns, k, ()) = .ok l ∧ l.length ≤ 100 := by
  unfold m_l_numbers b_l_numbers
  have e1 := dr ns (k := k) (l := 60) 0 h0 (by decide) (by decide) ⟨by decide, by decide⟩
  have q : 0 ≤ drw ns k 0 60 % 6 ∧ drw ns k 0 60 % 6 < 6 := ⟨Int.emod_nonneg _ (by decide), Int.emod_lt_of_pos _ (by decide)⟩
  simp only [bind_ok, bind_er, bind_no, out_ok, out_er, out_no, seq_nx, seq_rt, seq_er, seq_no, fin_rt, fin_nx, fin_er, fin_no, finN_rt, finN_nx, finN_er, calm_ok, ofOpt_some, ofOpt_none, guard_true, guard_false, cV_ap, cK_ap, b2_ap, u1_ap, notR_ap, andR_ap, orR_ap, ifR_ap, aNil_ap, aCons_ap, lNil_ap, lCons_ap, tOne_ap, oNx_ap, oSet_ap, oRet_ap, oExp_ap, oIf_ap, oSeq_ap, oFor_ap, oApp_ap, oAug_ap, cComp_ap, cCall_ap, cSome_ap, cCut_ap, gz_ap, gs_ap, wz_ap, ws_ap, wPair_ap, forM_nil, forM_cons, compM_nil, addR_ap, subR_ap, negR_ap, ltR_ap, leR_ap, gtR_ap, geR_ap, eqR_ap, neR_ap, inR_ap, niR_ap, isBR_ap, notBR_ap, isNR_ap, notNR_ap, lenR_ap, idR_ap, absR_ap, sumR_ap, allR_ap, anyR_ap, sortR_ap, enumR_ap, isiR_ap, selR_ap, wrapR_ap, max2_ap, min2_ap, oSetI_ap, oAppPop_ap, oRem_ap, cChain_ap, sortDR_ap, cntR_ap, decide_true, decide_false, Bool.not_true, Bool.not_false, Bool.false_eq_true, if_true, if_false, ite_true, ite_false, reduceIte, not_true_eq_false, not_false_eq_true, oRaise_ap, exNum_ap, exLink_ap, exNews_ap, exBound_ap, exPlan_ap, exWit_ap, exLine_ap, wPair_g, md_2, md_3, md_4, md_5, md_6, md_7, md_8, md_9, md_10, md_11, md_12, md_13, md_14, md_15, md_16, md_17, md_18, md_20, md_24, md_25, md_30, md_40, md_50, md_60, md_61, md_62, md_63, md_100, md_1000, md_2001, fd_2, fd_3, fd_4, fd_5, fd_6, fd_7, fd_8, fd_9, fd_10, fd_20, fd_60, fd_120, fd_3600, fd_7200, pw_9, pw_18, pw_29, pw_30, pw_48, pw_49, pw_50, Int.reduceEq, Int.reduceLT, Int.reduceLE, e1, rng1_sm (n := drw ns k 0 60 % 6) (by omega)]
  obtain ⟨st, e2, l2⟩ := compM_some' (f := fun a => b_l_numbers_E1 (some ns, some k, some (drw ns k 0 60 % 6), some a, ())) (as := rng 0 (drw ns k 0 60 % 6).toNat) (fun a ha => by
    have := mem_rng.mp ha
    unfold b_l_numbers_E1
    have hm : mulR 3 a = .ok (3 * a) := mul_okl (by decide)
    obtain ⟨z, hz⟩ := number_ok ns (k + 1 + 3 * a) (by omega)
    exact ⟨z, by simp only [bind_ok, bind_er, bind_no, out_ok, out_er, out_no, seq_nx, seq_rt, seq_er, seq_no, fin_rt, fin_nx, fin_er, fin_no, finN_rt, finN_nx, finN_er, calm_ok, ofOpt_some, ofOpt_none, guard_true, guard_false, cV_ap, cK_ap, b2_ap, u1_ap, notR_ap, andR_ap, orR_ap, ifR_ap, aNil_ap, aCons_ap, lNil_ap, lCons_ap, tOne_ap, oNx_ap, oSet_ap, oRet_ap, oExp_ap, oIf_ap, oSeq_ap, oFor_ap, oApp_ap, oAug_ap, cComp_ap, cCall_ap, cSome_ap, cCut_ap, gz_ap, gs_ap, wz_ap, ws_ap, wPair_ap, forM_nil, forM_cons, compM_nil, addR_ap, subR_ap, negR_ap, ltR_ap, leR_ap, gtR_ap, geR_ap, eqR_ap, neR_ap, inR_ap, niR_ap, isBR_ap, notBR_ap, isNR_ap, notNR_ap, lenR_ap, idR_ap, absR_ap, sumR_ap, allR_ap, anyR_ap, sortR_ap, enumR_ap, isiR_ap, selR_ap, wrapR_ap, max2_ap, min2_ap, oSetI_ap, oAppPop_ap, oRem_ap, cChain_ap, sortDR_ap, cntR_ap, decide_true, decide_false, Bool.not_true, Bool.not_false, Bool.false_eq_true, if_true, if_false, ite_true, ite_false, reduceIte, not_true_eq_false, not_false_eq_true, oRaise_ap, exNum_ap, exLink_ap, exNews_ap, exBound_ap, exPlan_ap, exWit_ap, exLine_ap, wPair_g, md_2, md_3, md_4, md_5, md_6, md_7, md_8, md_9, md_10, md_11, md_12, md_13, md_14, md_15, md_16, md_17, md_18, md_20, md_24, md_25, md_30, md_40, md_50, md_60, md_61, md_62, md_63, md_100, md_1000, md_2001, fd_2, fd_3, fd_4, fd_5, fd_6, fd_7, fd_8, fd_9, fd_10, fd_20, fd_60, fd_120, fd_3600, fd_7200, pw_9, pw_18, pw_29, pw_30, pw_48, pw_49, pw_50, Int.reduceEq, Int.reduceLT, Int.reduceLE, hm, hz]⟩)
  rw [guard_dec (by rw [rng_length]; omega)]
  simp only [bind_ok, bind_er, bind_no, out_ok, out_er, out_no, seq_nx, seq_rt, seq_er, seq_no, fin_rt, fin_nx, fin_er, fin_no, finN_rt, finN_nx, finN_er, calm_ok, ofOpt_some, ofOpt_none, guard_true, guard_false, cV_ap, cK_ap, b2_ap, u1_ap, notR_ap, andR_ap, orR_ap, ifR_ap, aNil_ap, aCons_ap, lNil_ap, lCons_ap, tOne_ap, oNx_ap, oSet_ap, oRet_ap, oExp_ap, oIf_ap, oSeq_ap, oFor_ap, oApp_ap, oAug_ap, cComp_ap, cCall_ap, cSome_ap, cCut_ap, gz_ap, gs_ap, wz_ap, ws_ap, wPair_ap, forM_nil, forM_cons, compM_nil, addR_ap, subR_ap, negR_ap, ltR_ap, leR_ap, gtR_ap, geR_ap, eqR_ap, neR_ap, inR_ap, niR_ap, isBR_ap, notBR_ap, isNR_ap, notNR_ap, lenR_ap, idR_ap, absR_ap, sumR_ap, allR_ap, anyR_ap, sortR_ap, enumR_ap, isiR_ap, selR_ap, wrapR_ap, max2_ap, min2_ap, oSetI_ap, oAppPop_ap, oRem_ap, cChain_ap, sortDR_ap, cntR_ap, decide_true, decide_false, Bool.not_true, Bool.not_false, Bool.false_eq_true, if_true, if_false, ite_true, ite_false, reduceIte, not_true_eq_false, not_false_eq_true, oRaise_ap, exNum_ap, exLink_ap, exNews_ap, exBound_ap, exPlan_ap, exWit_ap, exLine_ap, wPair_g, md_2, md_3, md_4, md_5, md_6, md_7, md_8, md_9, md_10, md_11, md_12, md_13, md_14, md_15, md_16, md_17, md_18, md_20, md_24, md_25, md_30, md_40, md_50, md_60, md_61, md_62, md_63, md_100, md_1000, md_2001, fd_2, fd_3, fd_4, fd_5, fd_6, fd_7, fd_8, fd_9, fd_10, fd_20, fd_60, fd_120, fd_3600, fd_7200, pw_9, pw_18, pw_29, pw_30, pw_48, pw_49, pw_50, Int.reduceEq, Int.reduceLT, Int.reduceLE, e2]
  refine ⟨st, rfl, ?_⟩
  rw [l2, rng_length]
  omega
theorem fM_c {S ρ α : Type} (f : α → S → Out S ρ) (a : α) (as : List α) (s : S) : Y.forM f (a :: as) s = (f a s).seq (Y.forM f as) := (rfl)
theorem fM_n {S ρ α : Type} (f : α → S → Out S ρ) (s : S) : Y.forM f [] s = .nx s := (rfl)
theorem law_true : ∀ ns : List Int, ns.length ≤ 63 → m_law (ns, ()) = .ok true := by
  intro ns hn
  obtain ⟨x, hx⟩ := number_ok ns 0 (by decide)
  obtain ⟨a, ha, la⟩ := numbers_ok ns 3 (by decide)
  obtain ⟨b, hb, lb⟩ := numbers_ok ns 19 (by decide)
  have e1 := dr ns (k := 35) (l := 60) 0 (by decide) (by decide) (by decide) ⟨by decide, by decide⟩
  unfold m_law b_law
  simp only [bind_ok, bind_er, bind_no, out_ok, out_er, out_no, seq_nx, seq_rt, seq_er, seq_no, fin_rt, fin_nx, fin_er, fin_no, finN_rt, finN_nx, finN_er, calm_ok, ofOpt_some, ofOpt_none, guard_true, guard_false, cV_ap, cK_ap, b2_ap, u1_ap, notR_ap, andR_ap, orR_ap, ifR_ap, aNil_ap, aCons_ap, lNil_ap, lCons_ap, tOne_ap, oNx_ap, oSet_ap, oRet_ap, oExp_ap, oIf_ap, oSeq_ap, oFor_ap, oApp_ap, oAug_ap, cComp_ap, cCall_ap, cSome_ap, cCut_ap, gz_ap, gs_ap, wz_ap, ws_ap, wPair_ap, forM_nil, forM_cons, compM_nil, addR_ap, subR_ap, negR_ap, ltR_ap, leR_ap, gtR_ap, geR_ap, eqR_ap, neR_ap, inR_ap, niR_ap, isBR_ap, notBR_ap, isNR_ap, notNR_ap, lenR_ap, idR_ap, absR_ap, sumR_ap, allR_ap, anyR_ap, sortR_ap, enumR_ap, isiR_ap, selR_ap, wrapR_ap, max2_ap, min2_ap, oSetI_ap, oAppPop_ap, oRem_ap, cChain_ap, sortDR_ap, cntR_ap, decide_true, decide_false, Bool.not_true, Bool.not_false, Bool.false_eq_true, if_true, if_false, ite_true, ite_false, reduceIte, not_true_eq_false, not_false_eq_true, oRaise_ap, exNum_ap, exLink_ap, exNews_ap, exBound_ap, exPlan_ap, exWit_ap, exLine_ap, wPair_g, md_2, md_3, md_4, md_5, md_6, md_7, md_8, md_9, md_10, md_11, md_12, md_13, md_14, md_15, md_16, md_17, md_18, md_20, md_24, md_25, md_30, md_40, md_50, md_60, md_61, md_62, md_63, md_100, md_1000, md_2001, fd_2, fd_3, fd_4, fd_5, fd_6, fd_7, fd_8, fd_9, fd_10, fd_20, fd_60, fd_120, fd_3600, fd_7200, pw_9, pw_18, pw_29, pw_30, pw_48, pw_49, pw_50, Int.reduceEq, Int.reduceLT, Int.reduceLE, hx, ha, hb, e1]
  obtain ⟨c, hc, lc⟩ : ∃ c : List Int, (if decide (drw ns 35 0 60 % 4 = 0) = true then (Out.nx (some ns, some x, some a, some a, none, ()) : Out S_law Bool) else Out.nx (some ns, some x, some a, some b, none, ())) = Out.nx (some ns, some x, some a, some c, none, ()) ∧ c.length ≤ 100 := by
    by_cases q : drw ns 35 0 60 % 4 = 0
    · exact ⟨a, by rw [if_pos (decide_eq_true q)], la⟩
    · exact ⟨b, by rw [if_neg (fun z => q (of_decide_eq_true z))], lb⟩
  rw [hc]
  have l1 {nm : Str} (h : m_l_thrown (nm, some x, ()) = .ok ([nm], some (.inl x), true)) : b_law_L1 (some ns, some x, some a, some c, some nm, ()) = .nx (some ns, some x, some a, some c, some nm, ()) := by
    unfold b_law_L1
    simp only [bind_ok, bind_er, bind_no, out_ok, out_er, out_no, seq_nx, seq_rt, seq_er, seq_no, fin_rt, fin_nx, fin_er, fin_no, finN_rt, finN_nx, finN_er, calm_ok, ofOpt_some, ofOpt_none, guard_true, guard_false, cV_ap, cK_ap, b2_ap, u1_ap, notR_ap, andR_ap, orR_ap, ifR_ap, aNil_ap, aCons_ap, lNil_ap, lCons_ap, tOne_ap, oNx_ap, oSet_ap, oRet_ap, oExp_ap, oIf_ap, oSeq_ap, oFor_ap, oApp_ap, oAug_ap, cComp_ap, cCall_ap, cSome_ap, cCut_ap, gz_ap, gs_ap, wz_ap, ws_ap, wPair_ap, forM_nil, forM_cons, compM_nil, addR_ap, subR_ap, negR_ap, ltR_ap, leR_ap, gtR_ap, geR_ap, eqR_ap, neR_ap, inR_ap, niR_ap, isBR_ap, notBR_ap, isNR_ap, notNR_ap, lenR_ap, idR_ap, absR_ap, sumR_ap, allR_ap, anyR_ap, sortR_ap, enumR_ap, isiR_ap, selR_ap, wrapR_ap, max2_ap, min2_ap, oSetI_ap, oAppPop_ap, oRem_ap, cChain_ap, sortDR_ap, cntR_ap, decide_true, decide_false, Bool.not_true, Bool.not_false, Bool.false_eq_true, if_true, if_false, ite_true, ite_false, reduceIte, not_true_eq_false, not_false_eq_true, oRaise_ap, exNum_ap, exLink_ap, exNews_ap, exBound_ap, exPlan_ap, exWit_ap, exLine_ap, wPair_g, md_2, md_3, md_4, md_5, md_6, md_7, md_8, md_9, md_10, md_11, md_12, md_13, md_14, md_15, md_16, md_17, md_18, md_20, md_24, md_25, md_30, md_40, md_50, md_60, md_61, md_62, md_63, md_100, md_1000, md_2001, fd_2, fd_3, fd_4, fd_5, fd_6, fd_7, fd_8, fd_9, fd_10, fd_20, fd_60, fd_120, fd_3600, fd_7200, pw_9, pw_18, pw_29, pw_30, pw_48, pw_49, pw_50, Int.reduceEq, Int.reduceLT, Int.reduceLE, keeps_number h]
  have l2 {nm : Str} (h : m_l_thrown (nm, none, ()) = .ok ([nm], none, true)) : b_law_L2 (some ns, some x, some a, some c, some nm, ()) = .nx (some ns, some x, some a, some c, some nm, ()) := by
    unfold b_law_L2
    simp only [bind_ok, bind_er, bind_no, out_ok, out_er, out_no, seq_nx, seq_rt, seq_er, seq_no, fin_rt, fin_nx, fin_er, fin_no, finN_rt, finN_nx, finN_er, calm_ok, ofOpt_some, ofOpt_none, guard_true, guard_false, cV_ap, cK_ap, b2_ap, u1_ap, notR_ap, andR_ap, orR_ap, ifR_ap, aNil_ap, aCons_ap, lNil_ap, lCons_ap, tOne_ap, oNx_ap, oSet_ap, oRet_ap, oExp_ap, oIf_ap, oSeq_ap, oFor_ap, oApp_ap, oAug_ap, cComp_ap, cCall_ap, cSome_ap, cCut_ap, gz_ap, gs_ap, wz_ap, ws_ap, wPair_ap, forM_nil, forM_cons, compM_nil, addR_ap, subR_ap, negR_ap, ltR_ap, leR_ap, gtR_ap, geR_ap, eqR_ap, neR_ap, inR_ap, niR_ap, isBR_ap, notBR_ap, isNR_ap, notNR_ap, lenR_ap, idR_ap, absR_ap, sumR_ap, allR_ap, anyR_ap, sortR_ap, enumR_ap, isiR_ap, selR_ap, wrapR_ap, max2_ap, min2_ap, oSetI_ap, oAppPop_ap, oRem_ap, cChain_ap, sortDR_ap, cntR_ap, decide_true, decide_false, Bool.not_true, Bool.not_false, Bool.false_eq_true, if_true, if_false, ite_true, ite_false, reduceIte, not_true_eq_false, not_false_eq_true, oRaise_ap, exNum_ap, exLink_ap, exNews_ap, exBound_ap, exPlan_ap, exWit_ap, exLine_ap, wPair_g, md_2, md_3, md_4, md_5, md_6, md_7, md_8, md_9, md_10, md_11, md_12, md_13, md_14, md_15, md_16, md_17, md_18, md_20, md_24, md_25, md_30, md_40, md_50, md_60, md_61, md_62, md_63, md_100, md_1000, md_2001, fd_2, fd_3, fd_4, fd_5, fd_6, fd_7, fd_8, fd_9, fd_10, fd_20, fd_60, fd_120, fd_3600, fd_7200, pw_9, pw_18, pw_29, pw_30, pw_48, pw_49, pw_50, Int.reduceEq, Int.reduceLT, Int.reduceLE, keeps_none h]
  have k1 := keeps_list (nm := Str.ofString "BadPlan") (a := a) (b := c) thrown_plan la lc
  have k2 := keeps_list (nm := Str.ofString "NoPlan") (a := a) (b := c) thrown_noplan la lc
  simp only [bind_ok, bind_er, bind_no, out_ok, out_er, out_no, seq_nx, seq_rt, seq_er, seq_no, fin_rt, fin_nx, fin_er, fin_no, finN_rt, finN_nx, finN_er, calm_ok, ofOpt_some, ofOpt_none, guard_true, guard_false, cV_ap, cK_ap, b2_ap, u1_ap, notR_ap, andR_ap, orR_ap, ifR_ap, aNil_ap, aCons_ap, lNil_ap, lCons_ap, tOne_ap, oNx_ap, oSet_ap, oRet_ap, oExp_ap, oIf_ap, oSeq_ap, oFor_ap, oApp_ap, oAug_ap, cComp_ap, cCall_ap, cSome_ap, cCut_ap, gz_ap, gs_ap, wz_ap, ws_ap, wPair_ap, forM_nil, forM_cons, compM_nil, addR_ap, subR_ap, negR_ap, ltR_ap, leR_ap, gtR_ap, geR_ap, eqR_ap, neR_ap, inR_ap, niR_ap, isBR_ap, notBR_ap, isNR_ap, notNR_ap, lenR_ap, idR_ap, absR_ap, sumR_ap, allR_ap, anyR_ap, sortR_ap, enumR_ap, isiR_ap, selR_ap, wrapR_ap, max2_ap, min2_ap, oSetI_ap, oAppPop_ap, oRem_ap, cChain_ap, sortDR_ap, cntR_ap, decide_true, decide_false, Bool.not_true, Bool.not_false, Bool.false_eq_true, if_true, if_false, ite_true, ite_false, reduceIte, not_true_eq_false, not_false_eq_true, oRaise_ap, exNum_ap, exLink_ap, exNews_ap, exBound_ap, exPlan_ap, exWit_ap, exLine_ap, wPair_g, md_2, md_3, md_4, md_5, md_6, md_7, md_8, md_9, md_10, md_11, md_12, md_13, md_14, md_15, md_16, md_17, md_18, md_20, md_24, md_25, md_30, md_40, md_50, md_60, md_61, md_62, md_63, md_100, md_1000, md_2001, fd_2, fd_3, fd_4, fd_5, fd_6, fd_7, fd_8, fd_9, fd_10, fd_20, fd_60, fd_120, fd_3600, fd_7200, pw_9, pw_18, pw_29, pw_30, pw_48, pw_49, pw_50, Int.reduceEq, Int.reduceLT, Int.reduceLE, fM_c, fM_n, l1 (thrown_num x), l1 (thrown_link x), l1 (thrown_news x), l1 (thrown_bound x), l1 (thrown_text x), l2 thrown_news0, l2 thrown_bound0, k1, k2]
end Z


set_option Elab.async false
set_option linter.all false
set_option autoImplicit false
set_option maxRecDepth 100000
set_option maxHeartbeats 4000000
/-! The walk of law_k22_errors: printed by pyw.py. -/
namespace Z
open PySem PySem.Spec PyProof.Rows L2 Y

def topS (i : Nat) : Stmt := PySem.Challenge.pw_atmostwrong_k22_errors.main.body.getD i (.Pass ⟨0, 0, 0, 0⟩)
abbrev s_l_cell : Stmt := topS 12
abbrev n_l_cell : List Str := ["_law_script", "_law_at", "_law_mixed", "_law_cell_here"]
theorem sc_l_cell : FnScope n_l_cell ["_law_script", "_law_at"] (defScope s_l_cell) := ⟨rfl, rfl, rfl, by decide +kernel, rfl, by decide +kernel, by decide +kernel⟩
abbrev s_l_draw : Stmt := topS 13
abbrev n_l_draw : List Str := ["_law_script", "_law_at", "_law_place", "_law_limit", "_law_cell_here", "_law_step", "_law_mixed"]
theorem sc_l_draw : FnScope n_l_draw ["_law_script", "_law_at", "_law_place", "_law_limit"] (defScope s_l_draw) := ⟨rfl, rfl, rfl, by decide +kernel, rfl, by decide +kernel, by decide +kernel⟩
abbrev s_l_number : Stmt := topS 14
abbrev n_l_number : List Str := ["_law_script", "_law_at", "_law_kind", "_law_great", "_law_small"]
theorem sc_l_number : FnScope n_l_number ["_law_script", "_law_at"] (defScope s_l_number) := ⟨rfl, rfl, rfl, by decide +kernel, rfl, by decide +kernel, by decide +kernel⟩
abbrev s_l_numbers : Stmt := topS 15
abbrev n_l_numbers : List Str := ["_law_script", "_law_at", "_law_count", "_law_k"]
theorem sc_l_numbers : FnScope n_l_numbers ["_law_script", "_law_at"] (defScope s_l_numbers) := ⟨rfl, rfl, rfl, by decide +kernel, rfl, by decide +kernel, by decide +kernel⟩
abbrev s_l_seen : Stmt := topS 16
abbrev n_l_seen : List Str := ["_law_error", "_law_names", "_law_value"]
theorem sc_l_seen : FnScope n_l_seen ["_law_error"] (defScope s_l_seen) := ⟨rfl, rfl, rfl, by decide +kernel, rfl, by decide +kernel, by decide +kernel⟩
abbrev s_l_thrown : Stmt := topS 17
abbrev n_l_thrown : List Str := ["_law_name", "_law_value", "_law_error"]
theorem sc_l_thrown : FnScope n_l_thrown ["_law_name", "_law_value"] (defScope s_l_thrown) := ⟨rfl, rfl, rfl, by decide +kernel, rfl, by decide +kernel, by decide +kernel⟩
abbrev s_l_is_integer : Stmt := topS 10
abbrev n_l_is_integer : List Str := ["_law_found"]
theorem sc_l_is_integer : FnScope n_l_is_integer ["_law_found"] (defScope s_l_is_integer) := ⟨rfl, rfl, rfl, by decide +kernel, rfl, by decide +kernel, by decide +kernel⟩
abbrev s_l_keeps_number : Stmt := topS 18
abbrev n_l_keeps_number : List Str := ["_law_name", "_law_value", "_law_told"]
theorem sc_l_keeps_number : FnScope n_l_keeps_number ["_law_name", "_law_value"] (defScope s_l_keeps_number) := ⟨rfl, rfl, rfl, by decide +kernel, rfl, by decide +kernel, by decide +kernel⟩
abbrev s_l_same_list : Stmt := topS 11
abbrev n_l_same_list : List Str := ["_law_found", "_law_expected", "_law_k"]
theorem sc_l_same_list : FnScope n_l_same_list ["_law_found", "_law_expected"] (defScope s_l_same_list) := ⟨rfl, rfl, rfl, by decide +kernel, rfl, by decide +kernel, by decide +kernel⟩
abbrev s_l_keeps_list : Stmt := topS 19
abbrev n_l_keeps_list : List Str := ["_law_name", "_law_first", "_law_second", "_law_passed", "_law_told", "_law_other"]
theorem sc_l_keeps_list : FnScope n_l_keeps_list ["_law_name", "_law_first", "_law_second"] (defScope s_l_keeps_list) := ⟨rfl, rfl, rfl, by decide +kernel, rfl, by decide +kernel, by decide +kernel⟩
abbrev s_law : Stmt := topS 20
abbrev n_law : List Str := ["_law_script", "_law_value", "_law_first", "_law_second", "_law_name"]
theorem sc_law : FnScope n_law ["_law_script"] (defScope s_law) := ⟨rfl, rfl, rfl, by decide +kernel, rfl, by decide +kernel, by decide +kernel⟩
abbrev s_BadBound : Stmt := inClass (topS 6) 0
theorem sh_BadBound : ShI s_BadBound "BadBound.__init__" "link" "link" := ⟨⟨NdefX.nscope_by (by decide +kernel), by rfl, ⟨_, rfl, rfl⟩, fun _ _ _ _ _ _ _ us hl => (match us, hl with | [_, _], _ => rfl), by decide, by decide⟩, ⟨_, _, _, _, _, _, _, _, _, _, _, _, rfl, rfl⟩⟩
abbrev s_BadLink : Stmt := inClass (topS 3) 0
theorem sh_BadLink : ShI s_BadLink "BadLink.__init__" "link" "link" := ⟨⟨NdefX.nscope_by (by decide +kernel), by rfl, ⟨_, rfl, rfl⟩, fun _ _ _ _ _ _ _ us hl => (match us, hl with | [_, _], _ => rfl), by decide, by decide⟩, ⟨_, _, _, _, _, _, _, _, _, _, _, _, rfl, rfl⟩⟩
abbrev s_BadNews : Stmt := inClass (topS 4) 0
theorem sh_BadNews : ShI s_BadNews "BadNews.__init__" "link" "link" := ⟨⟨NdefX.nscope_by (by decide +kernel), by rfl, ⟨_, rfl, rfl⟩, fun _ _ _ _ _ _ _ us hl => (match us, hl with | [_, _], _ => rfl), by decide, by decide⟩, ⟨_, _, _, _, _, _, _, _, _, _, _, _, rfl, rfl⟩⟩
abbrev s_BadNumber : Stmt := inClass (topS 2) 0
theorem sh_BadNumber : ShI s_BadNumber "BadNumber.__init__" "number" "number" := ⟨⟨NdefX.nscope_by (by decide +kernel), by rfl, ⟨_, rfl, rfl⟩, fun _ _ _ _ _ _ _ us hl => (match us, hl with | [_, _], _ => rfl), by decide, by decide⟩, ⟨_, _, _, _, _, _, _, _, _, _, _, _, rfl, rfl⟩⟩
abbrev s_BadPlan : Stmt := inClass (topS 5) 0
theorem sh_BadPlan : ShL s_BadPlan "BadPlan.__init__" "plan" "plan" := ⟨⟨NdefX.nscope_by (by decide +kernel), by rfl, ⟨_, rfl, rfl⟩, fun _ _ _ _ _ _ _ us hl => (match us, hl with | [_, _], _ => rfl), by decide, by decide⟩, by rfl, ⟨_, _, _, _, _, _, _, _, _, _, _, _, _, _, rfl, rfl⟩⟩
abbrev s_BadText : Stmt := inClass (topS 8) 0
theorem sh_BadText : ShI s_BadText "BadText.__init__" "line" "line" := ⟨⟨NdefX.nscope_by (by decide +kernel), by rfl, ⟨_, rfl, rfl⟩, fun _ _ _ _ _ _ _ us hl => (match us, hl with | [_, _], _ => rfl), by decide, by decide⟩, ⟨_, _, _, _, _, _, _, _, _, _, _, _, rfl, rfl⟩⟩
abbrev s_NoPlan : Stmt := inClass (topS 7) 0
theorem sh_NoPlan : ShL s_NoPlan "NoPlan.__init__" "witness" "witness" := ⟨⟨NdefX.nscope_by (by decide +kernel), by rfl, ⟨_, rfl, rfl⟩, fun _ _ _ _ _ _ _ us hl => (match us, hl with | [_, _], _ => rfl), by decide, by decide⟩, by rfl, ⟨_, _, _, _, _, _, _, _, _, _, _, _, _, _, rfl, rfl⟩⟩
structure Txt (P : Program) (K : PySem.W.Frag) (mg : Str → Option Value) (f : Nat → Addr) (d : Nat → FuncData) (xc : Nat → Addr) (we : Addr) (fi : Nat → Addr) : Prop where
  g_WrongError : mg "WrongError" = some (.ref we)
  x_BadBound : ExT P K mg "BadBound" "link" (xc 4) (fi 4) "BadBound.__init__" s_BadBound
  x_BadLink : ExT P K mg "BadLink" "link" (xc 1) (fi 1) "BadLink.__init__" s_BadLink
  x_BadNews : ExT P K mg "BadNews" "link" (xc 2) (fi 2) "BadNews.__init__" s_BadNews
  x_BadNumber : ExT P K mg "BadNumber" "number" (xc 0) (fi 0) "BadNumber.__init__" s_BadNumber
  x_BadPlan : ExT P K mg "BadPlan" "plan" (xc 3) (fi 3) "BadPlan.__init__" s_BadPlan
  x_BadText : ExT P K mg "BadText" "line" (xc 6) (fi 6) "BadText.__init__" s_BadText
  x_NoPlan : ExT P K mg "NoPlan" "witness" (xc 5) (fi 5) "NoPlan.__init__" s_NoPlan
  e_WrongError_0 : PySem.W.exmOne K (.ref (xc 0)) (.ref we) = some true
  e_WrongError_1 : PySem.W.exmOne K (.ref (xc 1)) (.ref we) = some true
  e_WrongError_2 : PySem.W.exmOne K (.ref (xc 2)) (.ref we) = some true
  e_WrongError_3 : PySem.W.exmOne K (.ref (xc 3)) (.ref we) = some true
  e_WrongError_4 : PySem.W.exmOne K (.ref (xc 4)) (.ref we) = some true
  e_WrongError_5 : PySem.W.exmOne K (.ref (xc 5)) (.ref we) = some true
  e_WrongError_6 : PySem.W.exmOne K (.ref (xc 6)) (.ref we) = some true
  hn : PySem.W.specialIn K (.builtin "object.__class__") "__get__" = some (some (.builtin "getset_descriptor.__get__"))
  ht : PySem.W.takesIn K (.builtin "object.__class__") = some true
  hC_0 : PySem.W.specialIn K (.builtin "object.__class__") "__get__" = some (some (.builtin "getset_descriptor.__get__")) → PySem.W.takesIn K (.builtin "object.__class__") = some true → ExcC K (xc 0)
  hC_1 : PySem.W.specialIn K (.builtin "object.__class__") "__get__" = some (some (.builtin "getset_descriptor.__get__")) → PySem.W.takesIn K (.builtin "object.__class__") = some true → ExcC K (xc 1)
  hC_2 : PySem.W.specialIn K (.builtin "object.__class__") "__get__" = some (some (.builtin "getset_descriptor.__get__")) → PySem.W.takesIn K (.builtin "object.__class__") = some true → ExcC K (xc 2)
  hC_3 : PySem.W.specialIn K (.builtin "object.__class__") "__get__" = some (some (.builtin "getset_descriptor.__get__")) → PySem.W.takesIn K (.builtin "object.__class__") = some true → ExcC K (xc 3)
  hC_4 : PySem.W.specialIn K (.builtin "object.__class__") "__get__" = some (some (.builtin "getset_descriptor.__get__")) → PySem.W.takesIn K (.builtin "object.__class__") = some true → ExcC K (xc 4)
  hC_5 : PySem.W.specialIn K (.builtin "object.__class__") "__get__" = some (some (.builtin "getset_descriptor.__get__")) → PySem.W.takesIn K (.builtin "object.__class__") = some true → ExcC K (xc 5)
  hC_6 : PySem.W.specialIn K (.builtin "object.__class__") "__get__" = some (some (.builtin "getset_descriptor.__get__")) → PySem.W.takesIn K (.builtin "object.__class__") = some true → ExcC K (xc 6)
  i_BadBound_0 : PySem.W.kitOne K (.ref (xc 0)) (.ref (xc 4)) = some false
  i_BadBound_1 : PySem.W.kitOne K (.ref (xc 1)) (.ref (xc 4)) = some false
  i_BadBound_2 : PySem.W.kitOne K (.ref (xc 2)) (.ref (xc 4)) = some false
  i_BadBound_3 : PySem.W.kitOne K (.ref (xc 3)) (.ref (xc 4)) = some false
  i_BadBound_4 : PySem.W.kitOne K (.ref (xc 4)) (.ref (xc 4)) = some true
  i_BadBound_5 : PySem.W.kitOne K (.ref (xc 5)) (.ref (xc 4)) = some false
  i_BadBound_6 : PySem.W.kitOne K (.ref (xc 6)) (.ref (xc 4)) = some false
  i_BadLink_0 : PySem.W.kitOne K (.ref (xc 0)) (.ref (xc 1)) = some false
  i_BadLink_1 : PySem.W.kitOne K (.ref (xc 1)) (.ref (xc 1)) = some true
  i_BadLink_2 : PySem.W.kitOne K (.ref (xc 2)) (.ref (xc 1)) = some false
  i_BadLink_3 : PySem.W.kitOne K (.ref (xc 3)) (.ref (xc 1)) = some false
  i_BadLink_4 : PySem.W.kitOne K (.ref (xc 4)) (.ref (xc 1)) = some false
  i_BadLink_5 : PySem.W.kitOne K (.ref (xc 5)) (.ref (xc 1)) = some false
  i_BadLink_6 : PySem.W.kitOne K (.ref (xc 6)) (.ref (xc 1)) = some false
  i_BadNews_0 : PySem.W.kitOne K (.ref (xc 0)) (.ref (xc 2)) = some false
  i_BadNews_1 : PySem.W.kitOne K (.ref (xc 1)) (.ref (xc 2)) = some false
  i_BadNews_2 : PySem.W.kitOne K (.ref (xc 2)) (.ref (xc 2)) = some true
  i_BadNews_3 : PySem.W.kitOne K (.ref (xc 3)) (.ref (xc 2)) = some false
  i_BadNews_4 : PySem.W.kitOne K (.ref (xc 4)) (.ref (xc 2)) = some false
  i_BadNews_5 : PySem.W.kitOne K (.ref (xc 5)) (.ref (xc 2)) = some false
  i_BadNews_6 : PySem.W.kitOne K (.ref (xc 6)) (.ref (xc 2)) = some false
  i_BadNumber_0 : PySem.W.kitOne K (.ref (xc 0)) (.ref (xc 0)) = some true
  i_BadNumber_1 : PySem.W.kitOne K (.ref (xc 1)) (.ref (xc 0)) = some false
  i_BadNumber_2 : PySem.W.kitOne K (.ref (xc 2)) (.ref (xc 0)) = some false
  i_BadNumber_3 : PySem.W.kitOne K (.ref (xc 3)) (.ref (xc 0)) = some false
  i_BadNumber_4 : PySem.W.kitOne K (.ref (xc 4)) (.ref (xc 0)) = some false
  i_BadNumber_5 : PySem.W.kitOne K (.ref (xc 5)) (.ref (xc 0)) = some false
  i_BadNumber_6 : PySem.W.kitOne K (.ref (xc 6)) (.ref (xc 0)) = some false
  i_BadPlan_0 : PySem.W.kitOne K (.ref (xc 0)) (.ref (xc 3)) = some false
  i_BadPlan_1 : PySem.W.kitOne K (.ref (xc 1)) (.ref (xc 3)) = some false
  i_BadPlan_2 : PySem.W.kitOne K (.ref (xc 2)) (.ref (xc 3)) = some false
  i_BadPlan_3 : PySem.W.kitOne K (.ref (xc 3)) (.ref (xc 3)) = some true
  i_BadPlan_4 : PySem.W.kitOne K (.ref (xc 4)) (.ref (xc 3)) = some false
  i_BadPlan_5 : PySem.W.kitOne K (.ref (xc 5)) (.ref (xc 3)) = some false
  i_BadPlan_6 : PySem.W.kitOne K (.ref (xc 6)) (.ref (xc 3)) = some false
  i_BadText_0 : PySem.W.kitOne K (.ref (xc 0)) (.ref (xc 6)) = some false
  i_BadText_1 : PySem.W.kitOne K (.ref (xc 1)) (.ref (xc 6)) = some false
  i_BadText_2 : PySem.W.kitOne K (.ref (xc 2)) (.ref (xc 6)) = some false
  i_BadText_3 : PySem.W.kitOne K (.ref (xc 3)) (.ref (xc 6)) = some false
  i_BadText_4 : PySem.W.kitOne K (.ref (xc 4)) (.ref (xc 6)) = some false
  i_BadText_5 : PySem.W.kitOne K (.ref (xc 5)) (.ref (xc 6)) = some false
  i_BadText_6 : PySem.W.kitOne K (.ref (xc 6)) (.ref (xc 6)) = some true
  i_NoPlan_0 : PySem.W.kitOne K (.ref (xc 0)) (.ref (xc 5)) = some false
  i_NoPlan_1 : PySem.W.kitOne K (.ref (xc 1)) (.ref (xc 5)) = some false
  i_NoPlan_2 : PySem.W.kitOne K (.ref (xc 2)) (.ref (xc 5)) = some false
  i_NoPlan_3 : PySem.W.kitOne K (.ref (xc 3)) (.ref (xc 5)) = some false
  i_NoPlan_4 : PySem.W.kitOne K (.ref (xc 4)) (.ref (xc 5)) = some false
  i_NoPlan_5 : PySem.W.kitOne K (.ref (xc 5)) (.ref (xc 5)) = some true
  i_NoPlan_6 : PySem.W.kitOne K (.ref (xc 6)) (.ref (xc 5)) = some false
  i_ValueError_0 : PySem.W.kitOne K (.ref (xc 0)) (.type "ValueError") = some true
  i_ValueError_1 : PySem.W.kitOne K (.ref (xc 1)) (.type "ValueError") = some true
  i_ValueError_2 : PySem.W.kitOne K (.ref (xc 2)) (.type "ValueError") = some true
  i_ValueError_3 : PySem.W.kitOne K (.ref (xc 3)) (.type "ValueError") = some true
  i_ValueError_4 : PySem.W.kitOne K (.ref (xc 4)) (.type "ValueError") = some true
  i_ValueError_5 : PySem.W.kitOne K (.ref (xc 5)) (.type "ValueError") = some true
  i_ValueError_6 : PySem.W.kitOne K (.ref (xc 6)) (.type "ValueError") = some true
  F_l_cell : Fun K "_law_cell" "_law_cell" s_l_cell (f 12) (d 12)
  g_l_cell : mg "_law_cell" = some (.ref (f 12))
  b_l_cell : Binds K (d 12) ["_law_script", "_law_at"] []
  F_l_draw : Fun K "_law_draw" "_law_draw" s_l_draw (f 13) (d 13)
  g_l_draw : mg "_law_draw" = some (.ref (f 13))
  b_l_draw : Binds K (d 13) ["_law_script", "_law_at", "_law_place", "_law_limit"] []
  F_l_number : Fun K "_law_number" "_law_number" s_l_number (f 14) (d 14)
  g_l_number : mg "_law_number" = some (.ref (f 14))
  b_l_number : Binds K (d 14) ["_law_script", "_law_at"] []
  F_l_numbers : Fun K "_law_numbers" "_law_numbers" s_l_numbers (f 15) (d 15)
  g_l_numbers : mg "_law_numbers" = some (.ref (f 15))
  b_l_numbers : Binds K (d 15) ["_law_script", "_law_at"] []
  F_l_seen : Fun K "_law_seen" "_law_seen" s_l_seen (f 16) (d 16)
  g_l_seen : mg "_law_seen" = some (.ref (f 16))
  b_l_seen : Binds K (d 16) ["_law_error"] []
  F_l_thrown : Fun K "_law_thrown" "_law_thrown" s_l_thrown (f 17) (d 17)
  g_l_thrown : mg "_law_thrown" = some (.ref (f 17))
  b_l_thrown : Binds K (d 17) ["_law_name", "_law_value"] []
  F_l_is_integer : Fun K "_law_is_integer" "_law_is_integer" s_l_is_integer (f 10) (d 10)
  g_l_is_integer : mg "_law_is_integer" = some (.ref (f 10))
  b_l_is_integer : Binds K (d 10) ["_law_found"] []
  F_l_keeps_number : Fun K "_law_keeps_number" "_law_keeps_number" s_l_keeps_number (f 18) (d 18)
  g_l_keeps_number : mg "_law_keeps_number" = some (.ref (f 18))
  b_l_keeps_number : Binds K (d 18) ["_law_name", "_law_value"] []
  F_l_same_list : Fun K "_law_same_list" "_law_same_list" s_l_same_list (f 11) (d 11)
  g_l_same_list : mg "_law_same_list" = some (.ref (f 11))
  b_l_same_list : Binds K (d 11) ["_law_found", "_law_expected"] []
  F_l_keeps_list : Fun K "_law_keeps_list" "_law_keeps_list" s_l_keeps_list (f 19) (d 19)
  g_l_keeps_list : mg "_law_keeps_list" = some (.ref (f 19))
  b_l_keeps_list : Binds K (d 19) ["_law_name", "_law_first", "_law_second"] []
  F_law : Fun K "law" "law" s_law (f 20) (d 20)
  g_law : mg "law" = some (.ref (f 20))
  z_ValueError : mg "ValueError" = none
  z_bool : mg "bool" = none
  z_int : mg "int" = none
  z_isinstance : mg "isinstance" = none
  z_len : mg "len" = none
  z_list : mg "list" = none
  z_range : mg "range" = none
  z_super : mg "super" = none
instance tab0 : TabC := ⟨[]⟩
section
variable {P : Program} {w : World} {K : PySem.W.Frag} {mg : Str → Option Value} {base : Heap} {f : Nat → Addr} {d : Nat → FuncData} {xc : Nat → Addr} {we : Addr} {fi : Nat → Addr}
theorem cat_WrongError_ok (T : Txt P K mg f d xc we fi) : ∀ e : Exn, PySem.W.exmOne K (.ref (xc e.k)) (.ref we) = some (cat_WrongError e)
  | .num _ => T.e_WrongError_0
  | .link _ => T.e_WrongError_1
  | .news _ => T.e_WrongError_2
  | .plan _ => T.e_WrongError_3
  | .bound _ => T.e_WrongError_4
  | .noplan _ => T.e_WrongError_5
  | .text _ => T.e_WrongError_6
theorem hC_ok (T : Txt P K mg f d xc we fi) : ∀ e : Exn, ExcC K (xc e.k)
  | .num _ => T.hC_0 T.hn T.ht
  | .link _ => T.hC_1 T.hn T.ht
  | .news _ => T.hC_2 T.hn T.ht
  | .plan _ => T.hC_3 T.hn T.ht
  | .bound _ => T.hC_4 T.hn T.ht
  | .noplan _ => T.hC_5 T.hn T.ht
  | .text _ => T.hC_6 T.hn T.ht
theorem isx_BadBound_ok (T : Txt P K mg f d xc we fi) : ∀ e : Exn, PySem.W.kitOne K (.ref (xc e.k)) (.ref (xc 4)) = some (cat_BadBound e)
  | .num _ => T.i_BadBound_0
  | .link _ => T.i_BadBound_1
  | .news _ => T.i_BadBound_2
  | .plan _ => T.i_BadBound_3
  | .bound _ => T.i_BadBound_4
  | .noplan _ => T.i_BadBound_5
  | .text _ => T.i_BadBound_6
theorem isx_BadLink_ok (T : Txt P K mg f d xc we fi) : ∀ e : Exn, PySem.W.kitOne K (.ref (xc e.k)) (.ref (xc 1)) = some (cat_BadLink e)
  | .num _ => T.i_BadLink_0
  | .link _ => T.i_BadLink_1
  | .news _ => T.i_BadLink_2
  | .plan _ => T.i_BadLink_3
  | .bound _ => T.i_BadLink_4
  | .noplan _ => T.i_BadLink_5
  | .text _ => T.i_BadLink_6
theorem isx_BadNews_ok (T : Txt P K mg f d xc we fi) : ∀ e : Exn, PySem.W.kitOne K (.ref (xc e.k)) (.ref (xc 2)) = some (cat_BadNews e)
  | .num _ => T.i_BadNews_0
  | .link _ => T.i_BadNews_1
  | .news _ => T.i_BadNews_2
  | .plan _ => T.i_BadNews_3
  | .bound _ => T.i_BadNews_4
  | .noplan _ => T.i_BadNews_5
  | .text _ => T.i_BadNews_6
theorem isx_BadNumber_ok (T : Txt P K mg f d xc we fi) : ∀ e : Exn, PySem.W.kitOne K (.ref (xc e.k)) (.ref (xc 0)) = some (cat_BadNumber e)
  | .num _ => T.i_BadNumber_0
  | .link _ => T.i_BadNumber_1
  | .news _ => T.i_BadNumber_2
  | .plan _ => T.i_BadNumber_3
  | .bound _ => T.i_BadNumber_4
  | .noplan _ => T.i_BadNumber_5
  | .text _ => T.i_BadNumber_6
theorem isx_BadPlan_ok (T : Txt P K mg f d xc we fi) : ∀ e : Exn, PySem.W.kitOne K (.ref (xc e.k)) (.ref (xc 3)) = some (cat_BadPlan e)
  | .num _ => T.i_BadPlan_0
  | .link _ => T.i_BadPlan_1
  | .news _ => T.i_BadPlan_2
  | .plan _ => T.i_BadPlan_3
  | .bound _ => T.i_BadPlan_4
  | .noplan _ => T.i_BadPlan_5
  | .text _ => T.i_BadPlan_6
theorem isx_BadText_ok (T : Txt P K mg f d xc we fi) : ∀ e : Exn, PySem.W.kitOne K (.ref (xc e.k)) (.ref (xc 6)) = some (cat_BadText e)
  | .num _ => T.i_BadText_0
  | .link _ => T.i_BadText_1
  | .news _ => T.i_BadText_2
  | .plan _ => T.i_BadText_3
  | .bound _ => T.i_BadText_4
  | .noplan _ => T.i_BadText_5
  | .text _ => T.i_BadText_6
theorem isx_NoPlan_ok (T : Txt P K mg f d xc we fi) : ∀ e : Exn, PySem.W.kitOne K (.ref (xc e.k)) (.ref (xc 5)) = some (cat_NoPlan e)
  | .num _ => T.i_NoPlan_0
  | .link _ => T.i_NoPlan_1
  | .news _ => T.i_NoPlan_2
  | .plan _ => T.i_NoPlan_3
  | .bound _ => T.i_NoPlan_4
  | .noplan _ => T.i_NoPlan_5
  | .text _ => T.i_NoPlan_6
theorem isx_ValueError_ok (T : Txt P K mg f d xc we fi) : ∀ e : Exn, PySem.W.kitOne K (.ref (xc e.k)) (.type "ValueError") = some (cat_WrongError e)
  | .num _ => T.i_ValueError_0
  | .link _ => T.i_ValueError_1
  | .news _ => T.i_ValueError_2
  | .plan _ => T.i_ValueError_3
  | .bound _ => T.i_ValueError_4
  | .noplan _ => T.i_ValueError_5
  | .text _ => T.i_ValueError_6
theorem ok_l_cell (T : Txt P K mg f d xc we fi) : FnOk P w K mg base (L2.CX P w) (1 + 1) (f 12) (d 12) ["_law_script", "_law_at"] (sp (K := K) (aC (pers (rSeq rInt)) (aC (pers rInt) aN)) (pers rInt) (xrOf xc) m_l_cell) :=
  def_ok (k := 1) (ss := (sI (rSeq rInt) (sI rInt (sI rInt (sI rInt sN))))) (ss' := (sI (rSeq rInt) (sI rInt (sI rInt (sI rInt sN))))) (mb := b_l_cell) T.F_l_cell sc_l_cell (HL.c (HL.c HL.n0)) (Ini.c (Ini.c (Ini.i (Ini.i Ini.n0)))) fun cdv A' outer s H E hr =>
    (sj_cons (s1_if (tj_lt (ee_var (LI.s LI.z)) (ee_len T.z_len (aa_cons ((ee_var LI.z).ps) aa_nil))) (sj_one (s1_ret (ee_int_ T.z_int (aa_cons (ee_ix ((ee_var LI.z).ps) (ee_var (LI.s LI.z))) aa_nil)))) sj_nil) (sj_cons (s1_set (LI.s (LI.s LI.z)) (ee_add (ee_mul (ee_var (LI.s LI.z)) ee_int) ee_int) sc_l_cell.nd) (sj_cons (s1_for (passes_of rfl) (ij_list ((ee_cut ((ee_var LI.z).ps) oo_none (oo_some ee_int)).frz)) (tg_name (LI.s (LI.s (LI.s LI.z))) sc_l_cell.nd) (sj_one (s1_set (LI.s (LI.s LI.z)) (ee_mod (ee_int_ T.z_int (aa_cons (ee_add (ee_add (ee_mul (ee_var (LI.s (LI.s LI.z))) ee_int) (ee_mod (ee_int_ T.z_int (aa_cons (ee_var (LI.s (LI.s (LI.s LI.z)))) aa_nil)) ee_int)) (ee_var (LI.s LI.z))) aa_nil)) ee_int) sc_l_cell.nd))) (sj_one (s1_ret (ee_var (LI.s (LI.s LI.z))))))))

theorem ok_l_draw (T : Txt P K mg f d xc we fi) : FnOk P w K mg base (L2.CX P w) (2 + 1) (f 13) (d 13) ["_law_script", "_law_at", "_law_place", "_law_limit"] (sp (K := K) (aC (pers (rSeq rInt)) (aC (pers rInt) (aC (pers rInt) (aC (pers rInt) aN)))) (pers rInt) (xrOf xc) m_l_draw) :=
  def_ok (k := 2) (ss := (sI (rSeq rInt) (sI rInt (sI rInt (sI rInt (sI rInt (sI rInt (sI rInt sN)))))))) (ss' := (sI (rSeq rInt) (sI rInt (sI rInt (sI rInt (sI rInt (sI rInt (sI rInt sN)))))))) (mb := b_l_draw) T.F_l_draw sc_l_draw (HL.c (HL.c (HL.c (HL.c HL.n0)))) (Ini.c (Ini.c (Ini.c (Ini.c (Ini.i (Ini.i (Ini.i Ini.n0))))))) fun cdv A' outer s H E hr =>
    (sj_cons (s1_set (LI.s (LI.s (LI.s (LI.s LI.z)))) (ee_call (ok_l_cell T) (hr.mono (by decide)) T.g_l_cell T.F_l_cell.kp T.b_l_cell (takes_of rfl rfl rfl rfl) (aa_cons (ee_var LI.z) (aa_cons (ee_var (LI.s LI.z)) aa_nil))) sc_l_draw.nd) (sj_cons (s1_if (tj_ge (ee_var (LI.s (LI.s (LI.s (LI.s LI.z))))) (ee_pow ee_int ee_int)) (sj_cons (s1_for (passes_of rfl) (ij_rng1 T.z_range (aa_cons (ee_var (LI.s (LI.s LI.z))) aa_nil)) (tg_name (LI.s (LI.s (LI.s (LI.s (LI.s LI.z))))) sc_l_draw.nd) (sj_one (s1_set (LI.s (LI.s (LI.s (LI.s LI.z)))) (ee_fdiv (ee_var (LI.s (LI.s (LI.s (LI.s LI.z))))) (ee_var (LI.s (LI.s (LI.s LI.z))))) sc_l_draw.nd))) (sj_one (s1_ret (ee_mod (ee_int_ T.z_int (aa_cons (ee_var (LI.s (LI.s (LI.s (LI.s LI.z))))) aa_nil)) (ee_var (LI.s (LI.s (LI.s LI.z)))))))) sj_nil) (sj_cons (s1_set (LI.s (LI.s (LI.s (LI.s (LI.s (LI.s LI.z)))))) (ee_mod (ee_int_ T.z_int (aa_cons (ee_add (ee_add (ee_mul (ee_var (LI.s (LI.s (LI.s (LI.s LI.z))))) ee_int) (ee_mul (ee_var (LI.s (LI.s LI.z))) ee_int)) ee_int) aa_nil)) ee_int) sc_l_draw.nd) (sj_one (s1_ret (ee_mod (ee_mod (ee_int_ T.z_int (aa_cons (ee_add (ee_mul (ee_var (LI.s (LI.s (LI.s (LI.s (LI.s (LI.s LI.z))))))) ee_int) (ee_mul (ee_var (LI.s (LI.s LI.z))) ee_int)) aa_nil)) ee_int) (ee_var (LI.s (LI.s (LI.s LI.z))))))))))

theorem ok_l_number (T : Txt P K mg f d xc we fi) : FnOk P w K mg base (L2.CX P w) (3 + 1) (f 14) (d 14) ["_law_script", "_law_at"] (sp (K := K) (aC (pers (rSeq rInt)) (aC (pers rInt) aN)) (pers rInt) (xrOf xc) m_l_number) :=
  def_ok (k := 3) (ss := (sI (rSeq rInt) (sI rInt (sI rInt (sI rInt (sI rInt sN)))))) (ss' := (sI (rSeq rInt) (sI rInt (sI rInt (sI rInt (sI rInt sN)))))) (mb := b_l_number) T.F_l_number sc_l_number (HL.c (HL.c HL.n0)) (Ini.c (Ini.c (Ini.i (Ini.i (Ini.i Ini.n0))))) fun cdv A' outer s H E hr =>
    (sj_cons (s1_set (LI.s (LI.s LI.z)) (ee_mod (ee_int_ T.z_int (aa_cons (ee_call (ok_l_draw T) (hr.mono (by decide)) T.g_l_draw T.F_l_draw.kp T.b_l_draw (takes_of rfl rfl rfl rfl) (aa_cons (ee_var LI.z) (aa_cons (ee_var (LI.s LI.z)) (aa_cons ee_int (aa_cons ee_int aa_nil))))) aa_nil)) ee_int) sc_l_number.nd) (sj_cons (s1_set (LI.s (LI.s (LI.s LI.z))) (ee_call (ok_l_draw T) (hr.mono (by decide)) T.g_l_draw T.F_l_draw.kp T.b_l_draw (takes_of rfl rfl rfl rfl) (aa_cons (ee_var LI.z) (aa_cons (ee_add (ee_var (LI.s LI.z)) ee_int) (aa_cons ee_int (aa_cons (ee_pow ee_int ee_int) aa_nil))))) sc_l_number.nd) (sj_cons (s1_set (LI.s (LI.s (LI.s (LI.s LI.z)))) (ee_sub (ee_int_ T.z_int (aa_cons (ee_call (ok_l_draw T) (hr.mono (by decide)) T.g_l_draw T.F_l_draw.kp T.b_l_draw (takes_of rfl rfl rfl rfl) (aa_cons (ee_var LI.z) (aa_cons (ee_add (ee_var (LI.s LI.z)) ee_int) (aa_cons ee_int (aa_cons ee_int aa_nil))))) aa_nil)) ee_int) sc_l_number.nd) (sj_one (s1_ret (ee_ix ((ee_lst (ll_cons ee_int (ll_cons ee_int (ll_cons (ee_neg ee_int) (ll_cons (ee_var (LI.s (LI.s (LI.s (LI.s LI.z))))) (ll_cons (ee_var (LI.s (LI.s (LI.s LI.z)))) (ll_cons (ee_sub (ee_neg ee_int) (ee_var (LI.s (LI.s (LI.s LI.z))))) (ll_nil (R := rInt))))))))).fl.ls) (ee_var (LI.s (LI.s LI.z)))))))))

theorem ok_l_numbers (T : Txt P K mg f d xc we fi) : FnOk P w K mg base (L2.CX P w) (4 + 1) (f 15) (d 15) ["_law_script", "_law_at"] (sp (K := K) (aC (pers (rSeq rInt)) (aC (pers rInt) aN)) (fre rInt) (xrOf xc) m_l_numbers) :=
  def_ok (k := 4) (ss := (sI (rSeq rInt) (sI rInt (sI rInt (sI rInt sN))))) (ss' := (sI (rSeq rInt) (sI rInt (sI rInt (sI rInt sN))))) (mb := b_l_numbers) T.F_l_numbers sc_l_numbers (HL.c (HL.c HL.n0)) (Ini.c (Ini.c (Ini.i (Ini.i Ini.n0)))) fun cdv A' outer s H E hr =>
    (sj_cons (s1_set (LI.s (LI.s LI.z)) (ee_mod (ee_int_ T.z_int (aa_cons (ee_call (ok_l_draw T) (hr.mono (by decide)) T.g_l_draw T.F_l_draw.kp T.b_l_draw (takes_of rfl rfl rfl rfl) (aa_cons (ee_var LI.z) (aa_cons (ee_var (LI.s LI.z)) (aa_cons ee_int (aa_cons ee_int aa_nil))))) aa_nil)) ee_int) sc_l_numbers.nd) (sj_one (s1_ret (ee_comp (cj (own := [(("_law_k" : Str), 3)]) (ij_rng1 T.z_range (aa_cons (ee_var (LI.s (LI.s LI.z))) aa_nil)).h (by exact blk_dec (N := n_l_numbers) (sc := defScope s_l_numbers) (by decide +kernel)) (fun _ _ _ _ _ => (tg_name (LI.s (LI.s (LI.s LI.z))) sc_l_numbers.nd)) (fun _ _ _ _ _ => tjs_nil) (fun _ _ _ _ _ => (ee_call (ok_l_number T) (hr.mono (by decide)) T.g_l_number T.F_l_number.kp T.b_l_number takes0 (aa_cons (ee_var LI.z) (aa_cons (ee_add (ee_add (ee_var (LI.s LI.z)) ee_int) (ee_mul ee_int (ee_var (LI.s (LI.s (LI.s LI.z)))))) aa_nil))))) sc_l_numbers.nd))))

theorem ok_l_seen (T : Txt P K mg f d xc we fi) : FnW P w K mg base (L2.CX P w) (1 + 1) (f 16) (d 16) ["_law_error"] (fun a cls d => sp (K := K) (aC (pers (rErr xc a cls d)) aN) (pers (rTup (tC (rList rStr) (tC (rOpt (rSum rInt (rList rInt))) (t1 rBool))))) (xrOf xc) m_l_seen) :=
  def_okW (k := 1) (AR := (fun a cls d => (aC (pers (rErr xc a cls d)) aN))) (ss := (fun a cls d => (sI (rErr xc a cls d) (sO rStr (sI (rOpt (rSum rInt (rList rInt))) sN))))) (ss' := (fun a cls d => (sI (rErr xc a cls d) (sI (rList rStr) (sI (rOpt (rSum rInt (rList rInt))) sN))))) (mb := b_l_seen) T.F_l_seen sc_l_seen (fun a cls d => (HL.c HL.n0)) (fun a cls d => (Ini.c (Ini.o (Ini.i Ini.n0)))) fun cdv A' outer s H E p cls d hr hx =>
    (sj_cons (s1_setO (LO.s LO.z) (ee_lst (ll_nil (R := rStr))) sc_l_seen.nd) (sj_cons (s1_set (LI.s (LI.o LI.z)) (ee_none) sc_l_seen.nd) (sj_cons (s1_if (tj_val (ee_isx (cat := cat_BadNumber) hx LI.z (hC_ok T) (isx_BadNumber_ok T) (pe_glob (v := .ref _) rfl T.x_BadNumber.at_ rfl) (fun _ h => h) T.z_isinstance)) (sj_cons (s1_append (LO.s LO.z) (ee_str)) (sj_one (s1_set (LI.s (LI.o LI.z)) (EE.wrap (nn_sum nn_int nn_list) (EE.inl (ee_exG T.x_BadNumber xaNum hx LI.z))) sc_l_seen.nd))) sj_nil) (sj_cons (s1_if (tj_val (ee_isx (cat := cat_BadLink) hx LI.z (hC_ok T) (isx_BadLink_ok T) (pe_glob (v := .ref _) rfl T.x_BadLink.at_ rfl) (fun _ h => h) T.z_isinstance)) (sj_cons (s1_append (LO.s LO.z) (ee_str)) (sj_one (s1_set (LI.s (LI.o LI.z)) (EE.wrap (nn_sum nn_int nn_list) (EE.inl (ee_exG T.x_BadLink xaLink hx LI.z))) sc_l_seen.nd))) sj_nil) (sj_cons (s1_if (tj_val (ee_isx (cat := cat_BadNews) hx LI.z (hC_ok T) (isx_BadNews_ok T) (pe_glob (v := .ref _) rfl T.x_BadNews.at_ rfl) (fun _ h => h) T.z_isinstance)) (sj_cons (s1_append (LO.s LO.z) (ee_str)) (sj_one (s1_set (LI.s (LI.o LI.z)) (EE.oinl (ee_exG T.x_BadNews xaNews hx LI.z)) sc_l_seen.nd))) sj_nil) (sj_cons (s1_if (tj_val (ee_isx (cat := cat_BadPlan) hx LI.z (hC_ok T) (isx_BadPlan_ok T) (pe_glob (v := .ref _) rfl T.x_BadPlan.at_ rfl) (fun _ h => h) T.z_isinstance)) (sj_cons (s1_append (LO.s LO.z) (ee_str)) (sj_one (s1_set (LI.s (LI.o LI.z)) (EE.wrap (nn_sum nn_int nn_list) (EE.inr (ee_exG T.x_BadPlan xaPlan hx LI.z))) sc_l_seen.nd))) sj_nil) (sj_cons (s1_if (tj_val (ee_isx (cat := cat_BadBound) hx LI.z (hC_ok T) (isx_BadBound_ok T) (pe_glob (v := .ref _) rfl T.x_BadBound.at_ rfl) (fun _ h => h) T.z_isinstance)) (sj_cons (s1_append (LO.s LO.z) (ee_str)) (sj_one (s1_set (LI.s (LI.o LI.z)) (EE.oinl (ee_exG T.x_BadBound xaBound hx LI.z)) sc_l_seen.nd))) sj_nil) (sj_cons (s1_if (tj_val (ee_isx (cat := cat_NoPlan) hx LI.z (hC_ok T) (isx_NoPlan_ok T) (pe_glob (v := .ref _) rfl T.x_NoPlan.at_ rfl) (fun _ h => h) T.z_isinstance)) (sj_cons (s1_append (LO.s LO.z) (ee_str)) (sj_one (s1_set (LI.s (LI.o LI.z)) (EE.wrap (nn_sum nn_int nn_list) (EE.inr (ee_exG T.x_NoPlan xaWit hx LI.z))) sc_l_seen.nd))) sj_nil) (sj_cons (s1_if (tj_val (ee_isx (cat := cat_BadText) hx LI.z (hC_ok T) (isx_BadText_ok T) (pe_glob (v := .ref _) rfl T.x_BadText.at_ rfl) (fun _ h => h) T.z_isinstance)) (sj_cons (s1_append (LO.s LO.z) (ee_str)) (sj_one (s1_set (LI.s (LI.o LI.z)) (EE.wrap (nn_sum nn_int nn_list) (EE.inl (ee_exG T.x_BadText xaLine hx LI.z))) sc_l_seen.nd))) sj_nil) (sj_fz (Fz.s Fz.z) (sj_one (s1_ret (ee_tup (tt_cons (ee_var (LI.s LI.z)) (tt_cons (ee_var (LI.s (LI.s LI.z))) (tt_one (ee_isx (cat := cat_WrongError) hx LI.z (hC_ok T) (isx_ValueError_ok T) (pe_bltn (v := .ty "ValueError") rfl T.z_ValueError (by decide +kernel) rfl) (fun _ h => h) T.z_isinstance)))))))))))))))))

theorem ok_l_thrown (T : Txt P K mg f d xc we fi) : FnOk P w K mg base (L2.CX P w) (2 + 1) (f 17) (d 17) ["_law_name", "_law_value"] (sp (K := K) (aC (pers rStr) (aC (pers (rOpt rInt)) aN)) (pers (rTup (tC (rList rStr) (tC (rOpt (rSum rInt (rList rInt))) (t1 rBool))))) (xrOf xc) m_l_thrown) :=
  def_ok (k := 2) (ss := (sI rStr (sI (rOpt rInt) (sI rNo sN)))) (ss' := (sI rStr (sI (rOpt rInt) (sI rNo sN)))) (mb := b_l_thrown) T.F_l_thrown sc_l_thrown (HL.c (HL.c HL.n0)) (Ini.c (Ini.c (Ini.i Ini.n0))) fun cdv A' outer s H E hr =>
    (sj_one (s1_try (ss2 := fun a cls d => (sI rStr (sI (rOpt rInt) (sI (rErr xc a cls d) sN)))) (ss3 := fun a cls d => (sI rStr (sI (rOpt rInt) (sI (rErr xc a cls d) sN)))) ⟨rfl, by decide, .inl T.g_WrongError⟩ (takes_of rfl rfl rfl rfl) (cat_WrongError_ok T) (fun W pn xe tk po => (sj_cons (s1_if (tj_eq deStr hr ((ee_var LI.z).pt) ((ee_str).pt)) (sj_one (s1_raiseI T.x_BadNumber sh_BadNumber (fun _ => rfl) (fun _ => rfl) (fun _ _ _ _ _ _ h => h) (hr.mono (by decide)) tk (EE.unwrap (ee_var (LI.s LI.z))))) sj_nil) (sj_cons (s1_if (tj_eq deStr hr ((ee_var LI.z).pt) ((ee_str).pt)) (sj_one (s1_raiseI T.x_BadLink sh_BadLink (fun _ => rfl) (fun _ => rfl) (fun _ _ _ _ _ _ h => h) (hr.mono (by decide)) tk (EE.unwrap (ee_var (LI.s LI.z))))) sj_nil) (sj_cons (s1_if (tj_eq deStr hr ((ee_var LI.z).pt) ((ee_str).pt)) (sj_one (s1_raiseI T.x_BadNews sh_BadNews (fun _ => rfl) (fun _ => rfl) (fun _ _ _ _ _ _ h => optv_of h) (hr.mono (by decide)) tk (ee_var (LI.s LI.z)))) sj_nil) (sj_cons (s1_if (tj_eq deStr hr ((ee_var LI.z).pt) ((ee_str).pt)) (sj_one s1_dead) sj_nil) (sj_cons (s1_if (tj_eq deStr hr ((ee_var LI.z).pt) ((ee_str).pt)) (sj_one (s1_raiseI T.x_BadBound sh_BadBound (fun _ => rfl) (fun _ => rfl) (fun _ _ _ _ _ _ h => optv_of h) (hr.mono (by decide)) tk (ee_var (LI.s LI.z)))) sj_nil) (sj_cons (s1_if (tj_eq deStr hr ((ee_var LI.z).pt) ((ee_str).pt)) (sj_one s1_dead) sj_nil) (sj_one (s1_raiseI T.x_BadText sh_BadText (fun _ => rfl) (fun _ => rfl) (fun _ _ _ _ _ _ h => h) (hr.mono (by decide)) tk (EE.unwrap (ee_var (LI.s LI.z)))))))))))) (fun _ _ _ => (Bot.i (Bot.i (Bot.i Bot.n)))) (fun _ _ _ => (LI.s (LI.s LI.z))) (fun a oe cls d pn hz hf => (sj_one (s1_ret (ee_callW (ok_l_seen T) (roomW ((L2H.roomH_of hr).mono (by decide))) T.g_l_seen T.F_l_seen.kp T.b_l_seen (Hx.suite hz hf) takes0 (aa_cons (ee_var (LI.s (LI.s LI.z))) aa_nil))))) sc_l_thrown.nd))

theorem ok_l_is_integer (T : Txt P K mg f d xc we fi) : FnOk P w K mg base (L2.CX P w) (1 + 1) (f 10) (d 10) ["_law_found"] (sp (K := K) (aC (pers rInt) aN) (pers rBool) (xrOf xc) m_l_is_integer) :=
  def_ok (k := 1) (ss := (sI rInt sN)) (ss' := (sI rInt sN)) (mb := b_l_is_integer) T.F_l_is_integer sc_l_is_integer (HL.c HL.n0) (Ini.c Ini.n0) fun cdv A' outer s H E hr =>
    (sj_one (s1_ret (ee_and (ee_isi (b := true) (c := "int") tgt_int (by decide +kernel) T.z_isinstance (aa_cons ((ee_var LI.z).pt) (aa_cons (ee_ty (n := "int") T.z_int) aa_nil))) (ee_one (ee_not (ee_isi (b := false) (c := "bool") tgt_int (by decide +kernel) T.z_isinstance (aa_cons ((ee_var LI.z).pt) (aa_cons (ee_ty (n := "bool") T.z_bool) aa_nil))))))))

theorem ok_l_keeps_number (T : Txt P K mg f d xc we fi) : FnOk P w K mg base (L2.CX P w) (3 + 1) (f 18) (d 18) ["_law_name", "_law_value"] (sp (K := K) (aC (pers rStr) (aC (pers (rOpt rInt)) aN)) (pers rBool) (xrOf xc) m_l_keeps_number) :=
  def_ok (k := 3) (ss := (sI rStr (sI (rOpt rInt) (sI (rTup (tC (rList rStr) (tC (rOpt (rSum rInt (rList rInt))) (t1 rBool)))) sN)))) (ss' := (sI rStr (sI (rOpt rInt) (sI (rTup (tC (rList rStr) (tC (rOpt (rSum rInt (rList rInt))) (t1 rBool)))) sN)))) (mb := b_l_keeps_number) T.F_l_keeps_number sc_l_keeps_number (HL.c (HL.c HL.n0)) (Ini.c (Ini.c (Ini.i Ini.n0))) fun cdv A' outer s H E hr =>
    (sj_cons (s1_set (LI.s (LI.s LI.z)) (ee_call (ok_l_thrown T) (hr.mono (by decide)) T.g_l_thrown T.F_l_thrown.kp T.b_l_thrown (takes_of rfl rfl rfl rfl) (aa_cons (ee_var LI.z) (aa_cons (ee_var (LI.s LI.z)) aa_nil))) sc_l_keeps_number.nd) (sj_cons (s1_if (TW.tj (tw_or (tj_ne (deList deStr) hr ((ee_tix (i := 0) TSel.z (ee_var (LI.s (LI.s LI.z)))).pt) ((ee_lst (ll_cons (ee_var LI.z) (ll_nil (R := rStr)))).fl.lt)) (tw_or1 (tj_notB (ee_tix (i := 2) (TSel.s (TSel.s TSel.one)) (ee_var (LI.s (LI.s LI.z)))) ee_bl)))) (sj_one (s1_ret ee_bl)) sj_nil) (sj_cons (s1_if (tj_isN (ee_var (LI.s LI.z)) ee_unit) (sj_one (s1_ret (ee_isN (ee_tix (i := 1) (TSel.s TSel.z) (ee_var (LI.s (LI.s LI.z)))) ee_unit))) sj_nil) (sj_one (s1_ret (ee_and (ee_call (ok_l_is_integer T) (hr.mono (by decide)) T.g_l_is_integer T.F_l_is_integer.kp T.b_l_is_integer (takes_of rfl rfl rfl rfl) (aa_cons (EE.asl (EE.unwrap (ee_tix (i := 1) (TSel.s TSel.z) (ee_var (LI.s (LI.s LI.z)))))) aa_nil)) (ee_one (ee_eq deInt hr (EE.asl (EE.unwrap (ee_tix (i := 1) (TSel.s TSel.z) (ee_var (LI.s (LI.s LI.z)))))).pt (EE.unwrap (ee_var (LI.s LI.z))).pt))))))))

theorem ok_l_thrown_1 (T : Txt P K mg f d xc we fi) : FnOk P w K mg base (L2.CX P w) (2 + 1) (f 17) (d 17) ["_law_name", "_law_value"] (sp (K := K) (aC (pers rStr) (aC (trn (rList rInt)) aN)) (pers (rTup (tC (rList rStr) (tC (rOpt (rSum rInt (rList rInt))) (t1 rBool))))) (xrOf xc) m_l_thrown_1) :=
  def_ok (k := 2) (ss := (sI rStr (sB (rList rInt) (sI rNo sN)))) (ss' := (sI rStr (sB (rList rInt) (sI rNo sN)))) (mb := b_l_thrown_1) T.F_l_thrown sc_l_thrown (HL.c (HL.c HL.n0)) (Ini.c (Ini.b (Ini.i Ini.n0))) fun cdv A' outer s H E hr =>
    (sj_one (s1_try (ss2 := fun a cls d => (sI rStr (sB (rList rInt) (sI (rErr xc a cls d) sN)))) (ss3 := fun a cls d => (sI rStr (sB (rList rInt) (sI (rErr xc a cls d) sN)))) ⟨rfl, by decide, .inl T.g_WrongError⟩ (takes_of rfl rfl rfl rfl) (cat_WrongError_ok T) (fun W pn xe tk po => (sj_cons (s1_if (tj_eq deStr hr ((ee_var LI.z).pt) ((ee_str).pt)) (sj_one s1_dead) sj_nil) (sj_cons (s1_if (tj_eq deStr hr ((ee_var LI.z).pt) ((ee_str).pt)) (sj_one s1_dead) sj_nil) (sj_cons (s1_if (tj_eq deStr hr ((ee_var LI.z).pt) ((ee_str).pt)) (sj_one s1_dead) sj_nil) (sj_cons (s1_if (tj_eq deStr hr ((ee_var LI.z).pt) ((ee_str).pt)) (sj_one (s1_raiseL T.x_BadPlan sh_BadPlan T.z_list (fun _ => rfl) (fun _ => rfl) (fun _ _ _ q h1 h2 => ⟨q, rfl, h1, h2⟩) (hr.mono (by decide)) tk (EE.tsq free_int (ee_view (LB.s LB.z))))) sj_nil) (sj_cons (s1_if (tj_eq deStr hr ((ee_var LI.z).pt) ((ee_str).pt)) (sj_one s1_dead) sj_nil) (sj_cons (s1_if (tj_eq deStr hr ((ee_var LI.z).pt) ((ee_str).pt)) (sj_one (s1_raiseL T.x_NoPlan sh_NoPlan T.z_list (fun _ => rfl) (fun _ => rfl) (fun _ _ _ q h1 h2 => ⟨q, rfl, h1, h2⟩) (hr.mono (by decide)) tk (EE.tsq free_int (ee_view (LB.s LB.z))))) sj_nil) (sj_one s1_dead)))))))) (fun _ _ _ => (Bot.i (Bot.v (Bot.i Bot.n)))) (fun _ _ _ => (LI.s (LI.b LI.z))) (fun a oe cls d pn hz hf => (sj_one (s1_ret (ee_callW (ok_l_seen T) (roomW ((L2H.roomH_of hr).mono (by decide))) T.g_l_seen T.F_l_seen.kp T.b_l_seen (Hx.suite hz hf) takes0 (aa_cons (ee_var (LI.s (LI.b LI.z))) aa_nil))))) sc_l_thrown.nd))

theorem ok_l_same_list (T : Txt P K mg f d xc we fi) : FnOk P w K mg base (L2.CX P w) (2 + 1) (f 11) (d 11) ["_law_found", "_law_expected"] (sp (K := K) (aC (pers (rList rInt)) (aC (pers (rList rInt)) aN)) (pers rBool) (xrOf xc) m_l_same_list) :=
  def_ok (k := 2) (ss := (sI (rList rInt) (sI (rList rInt) (sI rInt sN)))) (ss' := (sI (rList rInt) (sI (rList rInt) (sI rInt sN)))) (mb := b_l_same_list) T.F_l_same_list sc_l_same_list (HL.c (HL.c HL.n0)) (Ini.c (Ini.c (Ini.i Ini.n0))) fun cdv A' outer s H E hr =>
    (sj_cons (s1_if (TW.tj (tw_or (tj_not (tj_val (ee_isi (b := true) (c := "list") tgt_list (by decide +kernel) T.z_isinstance (aa_cons ((ee_var LI.z).pt) (aa_cons (ee_ty (n := "list") T.z_list) aa_nil))))) (tw_or1 (tj_ne deInt hr ((ee_len T.z_len (aa_cons ((ee_var LI.z).pl.ls) aa_nil)).pt) ((ee_len T.z_len (aa_cons ((ee_var (LI.s LI.z)).pl.ls) aa_nil)).pt))))) (sj_one (s1_ret ee_bl)) sj_nil) (sj_cons (s1_for (passes_of rfl) (ij_rng1 T.z_range (aa_cons (ee_len T.z_len (aa_cons ((ee_var (LI.s LI.z)).pl.ls) aa_nil)) aa_nil)) (tg_name (LI.s (LI.s LI.z)) sc_l_same_list.nd) (sj_one (s1_if (TW.tj (tw_or (tj_not (tj_val (ee_call (ok_l_is_integer T) (hr.mono (by decide)) T.g_l_is_integer T.F_l_is_integer.kp T.b_l_is_integer (takes_of rfl rfl rfl rfl) (aa_cons (ee_ix ((ee_var LI.z).pl.ls) (ee_var (LI.s (LI.s LI.z)))) aa_nil)))) (tw_or1 (tj_ne deInt hr ((ee_ix ((ee_var LI.z).pl.ls) (ee_var (LI.s (LI.s LI.z)))).pt) ((ee_ix ((ee_var (LI.s LI.z)).pl.ls) (ee_var (LI.s (LI.s LI.z)))).pt))))) (sj_one (s1_ret ee_bl)) sj_nil))) (sj_one (s1_ret ee_bl))))

theorem ok_l_keeps_list (T : Txt P K mg f d xc we fi) : FnOk P w K mg base (L2.CX P w) (3 + 1) (f 19) (d 19) ["_law_name", "_law_first", "_law_second"] (sp (K := K) (aC (pers rStr) (aC (pers (rList rInt)) (aC (pers (rList rInt)) aN))) (pers rBool) (xrOf xc) m_l_keeps_list) :=
  def_ok (k := 3) (ss := (sI rStr (sI (rList rInt) (sI (rList rInt) (sT (tLs (tLs (tLf rInt))) (sI (rTup (tC (rList rStr) (tC (rOpt (rSum rInt (rList rInt))) (t1 rBool)))) (sI (rTup (tC (rList rStr) (tC (rOpt (rSum rInt (rList rInt))) (t1 rBool)))) sN))))))) (ss' := (sI rStr (sI (rList rInt) (sI (rList rInt) (sT (tLs (tLs (tLf rInt))) (sI (rTup (tC (rList rStr) (tC (rOpt (rSum rInt (rList rInt))) (t1 rBool)))) (sI (rTup (tC (rList rStr) (tC (rOpt (rSum rInt (rList rInt))) (t1 rBool)))) sN))))))) (mb := b_l_keeps_list) T.F_l_keeps_list sc_l_keeps_list (HL.c (HL.c (HL.c HL.n0))) (Ini.c (Ini.c (Ini.c (Ini.t (Ini.i (Ini.i Ini.n0)))))) fun cdv A' outer s H E hr =>
    (sj_cons (s1_setT (LT.s (LT.s (LT.s LT.z))) (ee_lstT (llT_cons ((ee_list T.z_list (aa_cons ((ee_var (LI.s LI.z)).pl.ls) aa_nil)).ft) (llT_cons ((ee_list T.z_list (aa_cons ((ee_var (LI.s (LI.s LI.z))).pl.ls) aa_nil)).ft) (llT_nil (T := (tLs (tLf rInt))))))) sc_l_keeps_list.nd) (sj_cons (s1_set (LI.s (LI.s (LI.s (LI.t LI.z)))) (ee_call (ok_l_thrown_1 T) (hr.mono (by decide)) T.g_l_thrown T.F_l_thrown.kp T.b_l_thrown (takes_of rfl rfl rfl rfl) (aa_cons (ee_var LI.z) (aa_cons (ee_ixT (ee_tree (LT.s (LT.s (LT.s LT.z)))) ee_int) aa_nil))) sc_l_keeps_list.nd) (sj_cons (s1_set (LI.s (LI.s (LI.s (LI.t (LI.s LI.z))))) (ee_call (ok_l_thrown_1 T) (hr.mono (by decide)) T.g_l_thrown T.F_l_thrown.kp T.b_l_thrown (takes_of rfl rfl rfl rfl) (aa_cons (ee_var LI.z) (aa_cons (ee_ixT (ee_tree (LT.s (LT.s (LT.s LT.z)))) ee_int) aa_nil))) sc_l_keeps_list.nd) (sj_cons (s1_if (TW.tj (tw_or (tj_ne (deList deStr) hr ((ee_tix (i := 0) TSel.z (ee_var (LI.s (LI.s (LI.s (LI.t LI.z)))))).pt) ((ee_lst (ll_cons (ee_var LI.z) (ll_nil (R := rStr)))).fl.lt)) (tw_or (tj_ne (deList deStr) hr ((ee_tix (i := 0) TSel.z (ee_var (LI.s (LI.s (LI.s (LI.t (LI.s LI.z))))))).pt) ((ee_lst (ll_cons (ee_var LI.z) (ll_nil (R := rStr)))).fl.lt)) (tw_or (tj_notB (ee_tix (i := 2) (TSel.s (TSel.s TSel.one)) (ee_var (LI.s (LI.s (LI.s (LI.t LI.z)))))) ee_bl) (tw_or1 (tj_notB (ee_tix (i := 2) (TSel.s (TSel.s TSel.one)) (ee_var (LI.s (LI.s (LI.s (LI.t (LI.s LI.z))))))) ee_bl)))))) (sj_one (s1_ret ee_bl)) sj_nil) (sj_cons (s1_if (TW.tj (tw_or (tj_ne (deList deInt) hr (ee_ixT (ee_tree (LT.s (LT.s (LT.s LT.z)))) ee_int) ((ee_var (LI.s LI.z)).pt)) (tw_or1 (tj_ne (deList deInt) hr (ee_ixT (ee_tree (LT.s (LT.s (LT.s LT.z)))) ee_int) ((ee_var (LI.s (LI.s LI.z))).pt))))) (sj_one (s1_ret ee_bl)) sj_nil) (sj_cons (s1_appT (LT.s (LT.s (LT.s LT.z))) (Foc.l 0 Foc.here) (pp_l (i := 0) pp_var) ee_int.lf) (sj_cons (s1_appT (LT.s (LT.s (LT.s LT.z))) (Foc.l 1 Foc.here) (pp_l (i := 1) pp_var) ee_int.lf) (sj_one (s1_ret (ee_and (ee_call (ok_l_same_list T) (hr.mono (by decide)) T.g_l_same_list T.F_l_same_list.kp T.b_l_same_list (takes_of rfl rfl rfl rfl) (aa_cons (EE.asr (EE.unwrap (ee_tix (i := 1) (TSel.s TSel.z) (ee_var (LI.s (LI.s (LI.s (LI.t LI.z)))))))) (aa_cons (ee_var (LI.s LI.z)) aa_nil))) (ee_one (ee_call (ok_l_same_list T) (hr.mono (by decide)) T.g_l_same_list T.F_l_same_list.kp T.b_l_same_list (takes_of rfl rfl rfl rfl) (aa_cons (EE.asr (EE.unwrap (ee_tix (i := 1) (TSel.s TSel.z) (ee_var (LI.s (LI.s (LI.s (LI.t (LI.s LI.z))))))))) (aa_cons (ee_var (LI.s (LI.s LI.z))) aa_nil))))))))))))))

theorem ok_law (T : Txt P K mg f d xc we fi) : FnOk P w K mg base (L2.CX P w) (5 + 1) (f 20) (d 20) ["_law_script"] (sp (K := K) (aC (pers (rSeq rInt)) aN) (pers rBool) (xrOf xc) m_law) :=
  def_ok (k := 5) (ss := (sI (rSeq rInt) (sI rInt (sI (rList rInt) (sI (rList rInt) (sI rStr sN)))))) (ss' := (sI (rSeq rInt) (sI rInt (sI (rList rInt) (sI (rList rInt) (sI rStr sN)))))) (mb := b_law) T.F_law sc_law (HL.c HL.n0) (Ini.c (Ini.i (Ini.i (Ini.i (Ini.i Ini.n0))))) fun cdv A' outer s H E hr =>
    (sj_cons (s1_set (LI.s LI.z) (ee_call (ok_l_number T) (hr.mono (by decide)) T.g_l_number T.F_l_number.kp T.b_l_number (takes_of rfl rfl rfl rfl) (aa_cons (ee_var LI.z) (aa_cons ee_int aa_nil))) sc_law.nd) (sj_cons (s1_set (LI.s (LI.s LI.z)) ((ee_call (ok_l_numbers T) (hr.mono (by decide)) T.g_l_numbers T.F_l_numbers.kp T.b_l_numbers (takes_of rfl rfl rfl rfl) (aa_cons (ee_var LI.z) (aa_cons ee_int aa_nil))).frz) sc_law.nd) (sj_cons (s1_set (LI.s (LI.s (LI.s LI.z))) ((ee_call (ok_l_numbers T) (hr.mono (by decide)) T.g_l_numbers T.F_l_numbers.kp T.b_l_numbers (takes_of rfl rfl rfl rfl) (aa_cons (ee_var LI.z) (aa_cons ee_int aa_nil))).frz) sc_law.nd) (sj_cons (s1_if (tj_eq deInt hr ((ee_mod (ee_int_ T.z_int (aa_cons (ee_call (ok_l_draw T) (hr.mono (by decide)) T.g_l_draw T.F_l_draw.kp T.b_l_draw (takes_of rfl rfl rfl rfl) (aa_cons (ee_var LI.z) (aa_cons ee_int (aa_cons ee_int (aa_cons ee_int aa_nil))))) aa_nil)) ee_int).pt) ee_int.pt) (sj_one (s1_set (LI.s (LI.s (LI.s LI.z))) ((ee_list T.z_list (aa_cons ((ee_var (LI.s (LI.s LI.z))).pl.ls) aa_nil)).frz) sc_law.nd)) sj_nil) (sj_cons (s1_for (passes_of rfl) (ij_list ((ee_lst (ll_cons (ee_str) (ll_cons (ee_str) (ll_cons (ee_str) (ll_cons (ee_str) (ll_cons (ee_str) (ll_nil (R := rStr)))))))).frz)) (tg_name (LI.s (LI.s (LI.s (LI.s LI.z)))) sc_law.nd) (sj_one (s1_if (tj_not (tj_val (ee_call (ok_l_keeps_number T) (hr.mono (by decide)) T.g_l_keeps_number T.F_l_keeps_number.kp T.b_l_keeps_number (takes_of rfl rfl rfl rfl) (aa_cons (ee_var (LI.s (LI.s (LI.s (LI.s LI.z))))) (aa_cons (EE.wrap nn_int (ee_var (LI.s LI.z))) aa_nil))))) (sj_one (s1_ret ee_bl)) sj_nil))) (sj_cons (s1_for (passes_of rfl) (ij_list ((ee_lst (ll_cons (ee_str) (ll_cons (ee_str) (ll_nil (R := rStr))))).frz)) (tg_name (LI.s (LI.s (LI.s (LI.s LI.z)))) sc_law.nd) (sj_one (s1_if (tj_not (tj_val (ee_call (ok_l_keeps_number T) (hr.mono (by decide)) T.g_l_keeps_number T.F_l_keeps_number.kp T.b_l_keeps_number (takes_of rfl rfl rfl rfl) (aa_cons (ee_var (LI.s (LI.s (LI.s (LI.s LI.z))))) (aa_cons (ee_none) aa_nil))))) (sj_one (s1_ret ee_bl)) sj_nil))) (sj_one (s1_ret (ee_and (ee_call (ok_l_keeps_list T) (hr.mono (by decide)) T.g_l_keeps_list T.F_l_keeps_list.kp T.b_l_keeps_list (takes_of rfl rfl rfl rfl) (aa_cons (ee_str) (aa_cons (ee_var (LI.s (LI.s LI.z))) (aa_cons (ee_var (LI.s (LI.s (LI.s LI.z)))) aa_nil)))) (ee_one (ee_call (ok_l_keeps_list T) (hr.mono (by decide)) T.g_l_keeps_list T.F_l_keeps_list.kp T.b_l_keeps_list (takes_of rfl rfl rfl rfl) (aa_cons (ee_str) (aa_cons (ee_var (LI.s (LI.s LI.z))) (aa_cons (ee_var (LI.s (LI.s (LI.s LI.z)))) aa_nil))))))))))))))

end
theorem all_mk {l : PySem.W.OpenLaw} {w : World} {K : PySem.W.Frag} {h : Heap} {mg : Str → Option Value} {fa f12 f13 f14 f15 f16 f17 f10 f18 f11 f19 f20 : Addr} (X : K.In h) (G : h.Ns mainGlobals mg) (hfa : mg "law" = some (.ref fa))
    {od12 an12 : Option Addr} {sl12 : Array (Option Value)} {oc12 kV12 dc12 pm12 cd12 ct12 : Value} (a12 : PySem.W.nsIn K mainGlobals "_law_cell" = some (some (.ref f12))) (l12 : K.lookup f12 = some ⟨oc12, od12, .func (PySem.W.fnOf "_law_cell" "_law_cell" (defArgs s_l_cell) (defBody s_l_cell) (defScope s_l_cell) .none kV12 dc12 pm12 an12 cd12 ct12), sl12⟩) (c12 : PySem.W.codeIn K cd12 "_law_cell" = true) (k12 : PySem.W.keepIn K (.ref f12) = true)
    {od13 an13 : Option Addr} {sl13 : Array (Option Value)} {oc13 kV13 dc13 pm13 cd13 ct13 : Value} (a13 : PySem.W.nsIn K mainGlobals "_law_draw" = some (some (.ref f13))) (l13 : K.lookup f13 = some ⟨oc13, od13, .func (PySem.W.fnOf "_law_draw" "_law_draw" (defArgs s_l_draw) (defBody s_l_draw) (defScope s_l_draw) .none kV13 dc13 pm13 an13 cd13 ct13), sl13⟩) (c13 : PySem.W.codeIn K cd13 "_law_draw" = true) (k13 : PySem.W.keepIn K (.ref f13) = true)
    {od14 an14 : Option Addr} {sl14 : Array (Option Value)} {oc14 kV14 dc14 pm14 cd14 ct14 : Value} (a14 : PySem.W.nsIn K mainGlobals "_law_number" = some (some (.ref f14))) (l14 : K.lookup f14 = some ⟨oc14, od14, .func (PySem.W.fnOf "_law_number" "_law_number" (defArgs s_l_number) (defBody s_l_number) (defScope s_l_number) .none kV14 dc14 pm14 an14 cd14 ct14), sl14⟩) (c14 : PySem.W.codeIn K cd14 "_law_number" = true) (k14 : PySem.W.keepIn K (.ref f14) = true)
    {od15 an15 : Option Addr} {sl15 : Array (Option Value)} {oc15 kV15 dc15 pm15 cd15 ct15 : Value} (a15 : PySem.W.nsIn K mainGlobals "_law_numbers" = some (some (.ref f15))) (l15 : K.lookup f15 = some ⟨oc15, od15, .func (PySem.W.fnOf "_law_numbers" "_law_numbers" (defArgs s_l_numbers) (defBody s_l_numbers) (defScope s_l_numbers) .none kV15 dc15 pm15 an15 cd15 ct15), sl15⟩) (c15 : PySem.W.codeIn K cd15 "_law_numbers" = true) (k15 : PySem.W.keepIn K (.ref f15) = true)
    {od16 an16 : Option Addr} {sl16 : Array (Option Value)} {oc16 kV16 dc16 pm16 cd16 ct16 : Value} (a16 : PySem.W.nsIn K mainGlobals "_law_seen" = some (some (.ref f16))) (l16 : K.lookup f16 = some ⟨oc16, od16, .func (PySem.W.fnOf "_law_seen" "_law_seen" (defArgs s_l_seen) (defBody s_l_seen) (defScope s_l_seen) .none kV16 dc16 pm16 an16 cd16 ct16), sl16⟩) (c16 : PySem.W.codeIn K cd16 "_law_seen" = true) (k16 : PySem.W.keepIn K (.ref f16) = true)
    {od17 an17 : Option Addr} {sl17 : Array (Option Value)} {oc17 kV17 dc17 pm17 cd17 ct17 : Value} (a17 : PySem.W.nsIn K mainGlobals "_law_thrown" = some (some (.ref f17))) (l17 : K.lookup f17 = some ⟨oc17, od17, .func (PySem.W.fnOf "_law_thrown" "_law_thrown" (defArgs s_l_thrown) (defBody s_l_thrown) (defScope s_l_thrown) .none kV17 dc17 pm17 an17 cd17 ct17), sl17⟩) (c17 : PySem.W.codeIn K cd17 "_law_thrown" = true) (k17 : PySem.W.keepIn K (.ref f17) = true)
    {od10 an10 : Option Addr} {sl10 : Array (Option Value)} {oc10 kV10 dc10 pm10 cd10 ct10 : Value} (a10 : PySem.W.nsIn K mainGlobals "_law_is_integer" = some (some (.ref f10))) (l10 : K.lookup f10 = some ⟨oc10, od10, .func (PySem.W.fnOf "_law_is_integer" "_law_is_integer" (defArgs s_l_is_integer) (defBody s_l_is_integer) (defScope s_l_is_integer) .none kV10 dc10 pm10 an10 cd10 ct10), sl10⟩) (c10 : PySem.W.codeIn K cd10 "_law_is_integer" = true) (k10 : PySem.W.keepIn K (.ref f10) = true)
    {od18 an18 : Option Addr} {sl18 : Array (Option Value)} {oc18 kV18 dc18 pm18 cd18 ct18 : Value} (a18 : PySem.W.nsIn K mainGlobals "_law_keeps_number" = some (some (.ref f18))) (l18 : K.lookup f18 = some ⟨oc18, od18, .func (PySem.W.fnOf "_law_keeps_number" "_law_keeps_number" (defArgs s_l_keeps_number) (defBody s_l_keeps_number) (defScope s_l_keeps_number) .none kV18 dc18 pm18 an18 cd18 ct18), sl18⟩) (c18 : PySem.W.codeIn K cd18 "_law_keeps_number" = true) (k18 : PySem.W.keepIn K (.ref f18) = true)
    {od11 an11 : Option Addr} {sl11 : Array (Option Value)} {oc11 kV11 dc11 pm11 cd11 ct11 : Value} (a11 : PySem.W.nsIn K mainGlobals "_law_same_list" = some (some (.ref f11))) (l11 : K.lookup f11 = some ⟨oc11, od11, .func (PySem.W.fnOf "_law_same_list" "_law_same_list" (defArgs s_l_same_list) (defBody s_l_same_list) (defScope s_l_same_list) .none kV11 dc11 pm11 an11 cd11 ct11), sl11⟩) (c11 : PySem.W.codeIn K cd11 "_law_same_list" = true) (k11 : PySem.W.keepIn K (.ref f11) = true)
    {od19 an19 : Option Addr} {sl19 : Array (Option Value)} {oc19 kV19 dc19 pm19 cd19 ct19 : Value} (a19 : PySem.W.nsIn K mainGlobals "_law_keeps_list" = some (some (.ref f19))) (l19 : K.lookup f19 = some ⟨oc19, od19, .func (PySem.W.fnOf "_law_keeps_list" "_law_keeps_list" (defArgs s_l_keeps_list) (defBody s_l_keeps_list) (defScope s_l_keeps_list) .none kV19 dc19 pm19 an19 cd19 ct19), sl19⟩) (c19 : PySem.W.codeIn K cd19 "_law_keeps_list" = true) (k19 : PySem.W.keepIn K (.ref f19) = true)
    {od20 an20 : Option Addr} {sl20 : Array (Option Value)} {oc20 kV20 dc20 pm20 cd20 ct20 : Value} (a20 : PySem.W.nsIn K mainGlobals "law" = some (some (.ref f20))) (l20 : K.lookup f20 = some ⟨oc20, od20, .func (PySem.W.fnOf "law" "law" (defArgs s_law) (defBody s_law) (defScope s_law) .none kV20 dc20 pm20 an20 cd20 ct20), sl20⟩) (c20 : PySem.W.codeIn K cd20 "law" = true) (k20 : PySem.W.keepIn K (.ref f20) = true)
    {we : Addr} (aw : PySem.W.nsIn K mainGlobals "WrongError" = some (some (.ref we)))
    {C_4 I_4 B_4 c_4 N_4 : Addr} {nm_4 q_4 : Str} {bs_4 bm_4 sub_4 : List Value} {sn_4 : List Str} {ab_4 : Bool} {col_4 : Option Bool} {dd_4 od_4 c2_4 d2_4 : Option Addr} {k0_4 k1_4 k2_4 k3_4 k5_4 : Option Value} {oc_4 doc_4 pm_4 ctv_4 c1_4 d1_4 : Value} {osl_4 c3_4 d3_4 : Array (Option Value)} {vs_4 : Array Value} {file_4 : Str} {tf_4 : Tok}
    (xat_4 : PySem.W.nsIn K mainGlobals "BadBound" = some (some (.ref C_4)))
    (xC_4 : K.lookup C_4 = some (excClassObj nm_4 q_4 C_4 N_4 bs_4 bm_4 true sn_4 sub_4 ab_4 col_4 dd_4 k0_4 k1_4 k2_4 k3_4 k5_4 "ValueError.__new__"))
    (xbm_4 : PySem.HandSPX.refsVE bm_4 = true)
    (xsa_4 : PySem.W.findIn K (.ref C_4) "__setattr__" = some (some (.builtin "object.__setattr__")))
    (xex_4 : PySem.W.subIn K (.ref C_4) (.type "BaseException") = some true)
    (xty_4 : PySem.W.typeIn K (.ref C_4) = some (.type "type"))
    (xkC_4 : PySem.W.keepIn K (.ref C_4) = true)
    (xiC_4 : PySem.W.findIn K (.ref C_4) "__init__" = some (some (.ref I_4)))
    (xtI_4 : PySem.W.typeIn K (.ref I_4) = some (.type "function"))
    (xlF_4 : K.lookup I_4 = some ⟨oc_4, od_4, .func (PySem.W.fnX "__init__" "BadBound.__init__" (defArgs s_BadBound) (defBody s_BadBound) (defScope s_BadBound) [("__class__", B_4)] .none .none doc_4 pm_4 none (.ref c_4) ctv_4), osl_4⟩)
    (xcd_4 : PySem.W.codeIn K (.ref c_4) "BadBound.__init__" = true)
    (xcc_4 : K.lookup B_4 = some ⟨c1_4, c2_4, .cell (some (.ref C_4)), c3_4⟩)
    (xlc_4 : K.lookup c_4 = some ⟨d1_4, d2_4, .fields vs_4, d3_4⟩)
    (xh2_4 : vs_4[2]? = some (.str file_4 tf_4))
    (xfi_4 : ((l.prog.main.file : Str) == file_4) = true)
    (xsu_4 : PySem.W.ks_superIn K C_4 C_4 "__init__" = some (some (.builtin "ValueError.__init__")))
    (xmr_4 : PySem.W.mroIn K C_4 (.ref C_4) = some true)
    (xve_4 : PySem.W.subIn K (.ref C_4) (.type "ValueError") = some true)
    (xan_4 : PySem.W.nsIn K cStatics "thirdparty.any" = some none)
    (xtp_4 : (l.prog.main.scope.names.lookup ("super" : Str)).isSome = false)
    (xno_4 : PySem.W.findIn K (.ref C_4) "link" = some none)
    (xga_4 : PySem.W.findIn K (.ref C_4) "__getattribute__" = some (some (.builtin "BaseException.__getattribute__")))
    (xgg_4 : PySem.W.findIn K (.ref C_4) "__getattr__" = some none)
    (xhd_4 : PySem.W.hasDictIn K C_4 = true)
    {C_1 I_1 B_1 c_1 N_1 : Addr} {nm_1 q_1 : Str} {bs_1 bm_1 sub_1 : List Value} {sn_1 : List Str} {ab_1 : Bool} {col_1 : Option Bool} {dd_1 od_1 c2_1 d2_1 : Option Addr} {k0_1 k1_1 k2_1 k3_1 k5_1 : Option Value} {oc_1 doc_1 pm_1 ctv_1 c1_1 d1_1 : Value} {osl_1 c3_1 d3_1 : Array (Option Value)} {vs_1 : Array Value} {file_1 : Str} {tf_1 : Tok}
    (xat_1 : PySem.W.nsIn K mainGlobals "BadLink" = some (some (.ref C_1)))
    (xC_1 : K.lookup C_1 = some (excClassObj nm_1 q_1 C_1 N_1 bs_1 bm_1 true sn_1 sub_1 ab_1 col_1 dd_1 k0_1 k1_1 k2_1 k3_1 k5_1 "ValueError.__new__"))
    (xbm_1 : PySem.HandSPX.refsVE bm_1 = true)
    (xsa_1 : PySem.W.findIn K (.ref C_1) "__setattr__" = some (some (.builtin "object.__setattr__")))
    (xex_1 : PySem.W.subIn K (.ref C_1) (.type "BaseException") = some true)
    (xty_1 : PySem.W.typeIn K (.ref C_1) = some (.type "type"))
    (xkC_1 : PySem.W.keepIn K (.ref C_1) = true)
    (xiC_1 : PySem.W.findIn K (.ref C_1) "__init__" = some (some (.ref I_1)))
    (xtI_1 : PySem.W.typeIn K (.ref I_1) = some (.type "function"))
    (xlF_1 : K.lookup I_1 = some ⟨oc_1, od_1, .func (PySem.W.fnX "__init__" "BadLink.__init__" (defArgs s_BadLink) (defBody s_BadLink) (defScope s_BadLink) [("__class__", B_1)] .none .none doc_1 pm_1 none (.ref c_1) ctv_1), osl_1⟩)
    (xcd_1 : PySem.W.codeIn K (.ref c_1) "BadLink.__init__" = true)
    (xcc_1 : K.lookup B_1 = some ⟨c1_1, c2_1, .cell (some (.ref C_1)), c3_1⟩)
    (xlc_1 : K.lookup c_1 = some ⟨d1_1, d2_1, .fields vs_1, d3_1⟩)
    (xh2_1 : vs_1[2]? = some (.str file_1 tf_1))
    (xfi_1 : ((l.prog.main.file : Str) == file_1) = true)
    (xsu_1 : PySem.W.ks_superIn K C_1 C_1 "__init__" = some (some (.builtin "ValueError.__init__")))
    (xmr_1 : PySem.W.mroIn K C_1 (.ref C_1) = some true)
    (xve_1 : PySem.W.subIn K (.ref C_1) (.type "ValueError") = some true)
    (xan_1 : PySem.W.nsIn K cStatics "thirdparty.any" = some none)
    (xtp_1 : (l.prog.main.scope.names.lookup ("super" : Str)).isSome = false)
    (xno_1 : PySem.W.findIn K (.ref C_1) "link" = some none)
    (xga_1 : PySem.W.findIn K (.ref C_1) "__getattribute__" = some (some (.builtin "BaseException.__getattribute__")))
    (xgg_1 : PySem.W.findIn K (.ref C_1) "__getattr__" = some none)
    (xhd_1 : PySem.W.hasDictIn K C_1 = true)
    {C_2 I_2 B_2 c_2 N_2 : Addr} {nm_2 q_2 : Str} {bs_2 bm_2 sub_2 : List Value} {sn_2 : List Str} {ab_2 : Bool} {col_2 : Option Bool} {dd_2 od_2 c2_2 d2_2 : Option Addr} {k0_2 k1_2 k2_2 k3_2 k5_2 : Option Value} {oc_2 doc_2 pm_2 ctv_2 c1_2 d1_2 : Value} {osl_2 c3_2 d3_2 : Array (Option Value)} {vs_2 : Array Value} {file_2 : Str} {tf_2 : Tok}
    (xat_2 : PySem.W.nsIn K mainGlobals "BadNews" = some (some (.ref C_2)))
    (xC_2 : K.lookup C_2 = some (excClassObj nm_2 q_2 C_2 N_2 bs_2 bm_2 true sn_2 sub_2 ab_2 col_2 dd_2 k0_2 k1_2 k2_2 k3_2 k5_2 "ValueError.__new__"))
    (xbm_2 : PySem.HandSPX.refsVE bm_2 = true)
    (xsa_2 : PySem.W.findIn K (.ref C_2) "__setattr__" = some (some (.builtin "object.__setattr__")))
    (xex_2 : PySem.W.subIn K (.ref C_2) (.type "BaseException") = some true)
    (xty_2 : PySem.W.typeIn K (.ref C_2) = some (.type "type"))
    (xkC_2 : PySem.W.keepIn K (.ref C_2) = true)
    (xiC_2 : PySem.W.findIn K (.ref C_2) "__init__" = some (some (.ref I_2)))
    (xtI_2 : PySem.W.typeIn K (.ref I_2) = some (.type "function"))
    (xlF_2 : K.lookup I_2 = some ⟨oc_2, od_2, .func (PySem.W.fnX "__init__" "BadNews.__init__" (defArgs s_BadNews) (defBody s_BadNews) (defScope s_BadNews) [("__class__", B_2)] .none .none doc_2 pm_2 none (.ref c_2) ctv_2), osl_2⟩)
    (xcd_2 : PySem.W.codeIn K (.ref c_2) "BadNews.__init__" = true)
    (xcc_2 : K.lookup B_2 = some ⟨c1_2, c2_2, .cell (some (.ref C_2)), c3_2⟩)
    (xlc_2 : K.lookup c_2 = some ⟨d1_2, d2_2, .fields vs_2, d3_2⟩)
    (xh2_2 : vs_2[2]? = some (.str file_2 tf_2))
    (xfi_2 : ((l.prog.main.file : Str) == file_2) = true)
    (xsu_2 : PySem.W.ks_superIn K C_2 C_2 "__init__" = some (some (.builtin "ValueError.__init__")))
    (xmr_2 : PySem.W.mroIn K C_2 (.ref C_2) = some true)
    (xve_2 : PySem.W.subIn K (.ref C_2) (.type "ValueError") = some true)
    (xan_2 : PySem.W.nsIn K cStatics "thirdparty.any" = some none)
    (xtp_2 : (l.prog.main.scope.names.lookup ("super" : Str)).isSome = false)
    (xno_2 : PySem.W.findIn K (.ref C_2) "link" = some none)
    (xga_2 : PySem.W.findIn K (.ref C_2) "__getattribute__" = some (some (.builtin "BaseException.__getattribute__")))
    (xgg_2 : PySem.W.findIn K (.ref C_2) "__getattr__" = some none)
    (xhd_2 : PySem.W.hasDictIn K C_2 = true)
    {C_0 I_0 B_0 c_0 N_0 : Addr} {nm_0 q_0 : Str} {bs_0 bm_0 sub_0 : List Value} {sn_0 : List Str} {ab_0 : Bool} {col_0 : Option Bool} {dd_0 od_0 c2_0 d2_0 : Option Addr} {k0_0 k1_0 k2_0 k3_0 k5_0 : Option Value} {oc_0 doc_0 pm_0 ctv_0 c1_0 d1_0 : Value} {osl_0 c3_0 d3_0 : Array (Option Value)} {vs_0 : Array Value} {file_0 : Str} {tf_0 : Tok}
    (xat_0 : PySem.W.nsIn K mainGlobals "BadNumber" = some (some (.ref C_0)))
    (xC_0 : K.lookup C_0 = some (excClassObj nm_0 q_0 C_0 N_0 bs_0 bm_0 true sn_0 sub_0 ab_0 col_0 dd_0 k0_0 k1_0 k2_0 k3_0 k5_0 "ValueError.__new__"))
    (xbm_0 : PySem.HandSPX.refsVE bm_0 = true)
    (xsa_0 : PySem.W.findIn K (.ref C_0) "__setattr__" = some (some (.builtin "object.__setattr__")))
    (xex_0 : PySem.W.subIn K (.ref C_0) (.type "BaseException") = some true)
    (xty_0 : PySem.W.typeIn K (.ref C_0) = some (.type "type"))
    (xkC_0 : PySem.W.keepIn K (.ref C_0) = true)
    (xiC_0 : PySem.W.findIn K (.ref C_0) "__init__" = some (some (.ref I_0)))
    (xtI_0 : PySem.W.typeIn K (.ref I_0) = some (.type "function"))
    (xlF_0 : K.lookup I_0 = some ⟨oc_0, od_0, .func (PySem.W.fnX "__init__" "BadNumber.__init__" (defArgs s_BadNumber) (defBody s_BadNumber) (defScope s_BadNumber) [("__class__", B_0)] .none .none doc_0 pm_0 none (.ref c_0) ctv_0), osl_0⟩)
    (xcd_0 : PySem.W.codeIn K (.ref c_0) "BadNumber.__init__" = true)
    (xcc_0 : K.lookup B_0 = some ⟨c1_0, c2_0, .cell (some (.ref C_0)), c3_0⟩)
    (xlc_0 : K.lookup c_0 = some ⟨d1_0, d2_0, .fields vs_0, d3_0⟩)
    (xh2_0 : vs_0[2]? = some (.str file_0 tf_0))
    (xfi_0 : ((l.prog.main.file : Str) == file_0) = true)
    (xsu_0 : PySem.W.ks_superIn K C_0 C_0 "__init__" = some (some (.builtin "ValueError.__init__")))
    (xmr_0 : PySem.W.mroIn K C_0 (.ref C_0) = some true)
    (xve_0 : PySem.W.subIn K (.ref C_0) (.type "ValueError") = some true)
    (xan_0 : PySem.W.nsIn K cStatics "thirdparty.any" = some none)
    (xtp_0 : (l.prog.main.scope.names.lookup ("super" : Str)).isSome = false)
    (xno_0 : PySem.W.findIn K (.ref C_0) "number" = some none)
    (xga_0 : PySem.W.findIn K (.ref C_0) "__getattribute__" = some (some (.builtin "BaseException.__getattribute__")))
    (xgg_0 : PySem.W.findIn K (.ref C_0) "__getattr__" = some none)
    (xhd_0 : PySem.W.hasDictIn K C_0 = true)
    {C_3 I_3 B_3 c_3 N_3 : Addr} {nm_3 q_3 : Str} {bs_3 bm_3 sub_3 : List Value} {sn_3 : List Str} {ab_3 : Bool} {col_3 : Option Bool} {dd_3 od_3 c2_3 d2_3 : Option Addr} {k0_3 k1_3 k2_3 k3_3 k5_3 : Option Value} {oc_3 doc_3 pm_3 ctv_3 c1_3 d1_3 : Value} {osl_3 c3_3 d3_3 : Array (Option Value)} {vs_3 : Array Value} {file_3 : Str} {tf_3 : Tok}
    (xat_3 : PySem.W.nsIn K mainGlobals "BadPlan" = some (some (.ref C_3)))
    (xC_3 : K.lookup C_3 = some (excClassObj nm_3 q_3 C_3 N_3 bs_3 bm_3 true sn_3 sub_3 ab_3 col_3 dd_3 k0_3 k1_3 k2_3 k3_3 k5_3 "ValueError.__new__"))
    (xbm_3 : PySem.HandSPX.refsVE bm_3 = true)
    (xsa_3 : PySem.W.findIn K (.ref C_3) "__setattr__" = some (some (.builtin "object.__setattr__")))
    (xex_3 : PySem.W.subIn K (.ref C_3) (.type "BaseException") = some true)
    (xty_3 : PySem.W.typeIn K (.ref C_3) = some (.type "type"))
    (xkC_3 : PySem.W.keepIn K (.ref C_3) = true)
    (xiC_3 : PySem.W.findIn K (.ref C_3) "__init__" = some (some (.ref I_3)))
    (xtI_3 : PySem.W.typeIn K (.ref I_3) = some (.type "function"))
    (xlF_3 : K.lookup I_3 = some ⟨oc_3, od_3, .func (PySem.W.fnX "__init__" "BadPlan.__init__" (defArgs s_BadPlan) (defBody s_BadPlan) (defScope s_BadPlan) [("__class__", B_3)] .none .none doc_3 pm_3 none (.ref c_3) ctv_3), osl_3⟩)
    (xcd_3 : PySem.W.codeIn K (.ref c_3) "BadPlan.__init__" = true)
    (xcc_3 : K.lookup B_3 = some ⟨c1_3, c2_3, .cell (some (.ref C_3)), c3_3⟩)
    (xlc_3 : K.lookup c_3 = some ⟨d1_3, d2_3, .fields vs_3, d3_3⟩)
    (xh2_3 : vs_3[2]? = some (.str file_3 tf_3))
    (xfi_3 : ((l.prog.main.file : Str) == file_3) = true)
    (xsu_3 : PySem.W.ks_superIn K C_3 C_3 "__init__" = some (some (.builtin "ValueError.__init__")))
    (xmr_3 : PySem.W.mroIn K C_3 (.ref C_3) = some true)
    (xve_3 : PySem.W.subIn K (.ref C_3) (.type "ValueError") = some true)
    (xan_3 : PySem.W.nsIn K cStatics "thirdparty.any" = some none)
    (xtp_3 : (l.prog.main.scope.names.lookup ("super" : Str)).isSome = false)
    (xno_3 : PySem.W.findIn K (.ref C_3) "plan" = some none)
    (xga_3 : PySem.W.findIn K (.ref C_3) "__getattribute__" = some (some (.builtin "BaseException.__getattribute__")))
    (xgg_3 : PySem.W.findIn K (.ref C_3) "__getattr__" = some none)
    (xhd_3 : PySem.W.hasDictIn K C_3 = true)
    {C_6 I_6 B_6 c_6 N_6 : Addr} {nm_6 q_6 : Str} {bs_6 bm_6 sub_6 : List Value} {sn_6 : List Str} {ab_6 : Bool} {col_6 : Option Bool} {dd_6 od_6 c2_6 d2_6 : Option Addr} {k0_6 k1_6 k2_6 k3_6 k5_6 : Option Value} {oc_6 doc_6 pm_6 ctv_6 c1_6 d1_6 : Value} {osl_6 c3_6 d3_6 : Array (Option Value)} {vs_6 : Array Value} {file_6 : Str} {tf_6 : Tok}
    (xat_6 : PySem.W.nsIn K mainGlobals "BadText" = some (some (.ref C_6)))
    (xC_6 : K.lookup C_6 = some (excClassObj nm_6 q_6 C_6 N_6 bs_6 bm_6 true sn_6 sub_6 ab_6 col_6 dd_6 k0_6 k1_6 k2_6 k3_6 k5_6 "ValueError.__new__"))
    (xbm_6 : PySem.HandSPX.refsVE bm_6 = true)
    (xsa_6 : PySem.W.findIn K (.ref C_6) "__setattr__" = some (some (.builtin "object.__setattr__")))
    (xex_6 : PySem.W.subIn K (.ref C_6) (.type "BaseException") = some true)
    (xty_6 : PySem.W.typeIn K (.ref C_6) = some (.type "type"))
    (xkC_6 : PySem.W.keepIn K (.ref C_6) = true)
    (xiC_6 : PySem.W.findIn K (.ref C_6) "__init__" = some (some (.ref I_6)))
    (xtI_6 : PySem.W.typeIn K (.ref I_6) = some (.type "function"))
    (xlF_6 : K.lookup I_6 = some ⟨oc_6, od_6, .func (PySem.W.fnX "__init__" "BadText.__init__" (defArgs s_BadText) (defBody s_BadText) (defScope s_BadText) [("__class__", B_6)] .none .none doc_6 pm_6 none (.ref c_6) ctv_6), osl_6⟩)
    (xcd_6 : PySem.W.codeIn K (.ref c_6) "BadText.__init__" = true)
    (xcc_6 : K.lookup B_6 = some ⟨c1_6, c2_6, .cell (some (.ref C_6)), c3_6⟩)
    (xlc_6 : K.lookup c_6 = some ⟨d1_6, d2_6, .fields vs_6, d3_6⟩)
    (xh2_6 : vs_6[2]? = some (.str file_6 tf_6))
    (xfi_6 : ((l.prog.main.file : Str) == file_6) = true)
    (xsu_6 : PySem.W.ks_superIn K C_6 C_6 "__init__" = some (some (.builtin "ValueError.__init__")))
    (xmr_6 : PySem.W.mroIn K C_6 (.ref C_6) = some true)
    (xve_6 : PySem.W.subIn K (.ref C_6) (.type "ValueError") = some true)
    (xan_6 : PySem.W.nsIn K cStatics "thirdparty.any" = some none)
    (xtp_6 : (l.prog.main.scope.names.lookup ("super" : Str)).isSome = false)
    (xno_6 : PySem.W.findIn K (.ref C_6) "line" = some none)
    (xga_6 : PySem.W.findIn K (.ref C_6) "__getattribute__" = some (some (.builtin "BaseException.__getattribute__")))
    (xgg_6 : PySem.W.findIn K (.ref C_6) "__getattr__" = some none)
    (xhd_6 : PySem.W.hasDictIn K C_6 = true)
    {C_5 I_5 B_5 c_5 N_5 : Addr} {nm_5 q_5 : Str} {bs_5 bm_5 sub_5 : List Value} {sn_5 : List Str} {ab_5 : Bool} {col_5 : Option Bool} {dd_5 od_5 c2_5 d2_5 : Option Addr} {k0_5 k1_5 k2_5 k3_5 k5_5 : Option Value} {oc_5 doc_5 pm_5 ctv_5 c1_5 d1_5 : Value} {osl_5 c3_5 d3_5 : Array (Option Value)} {vs_5 : Array Value} {file_5 : Str} {tf_5 : Tok}
    (xat_5 : PySem.W.nsIn K mainGlobals "NoPlan" = some (some (.ref C_5)))
    (xC_5 : K.lookup C_5 = some (excClassObj nm_5 q_5 C_5 N_5 bs_5 bm_5 true sn_5 sub_5 ab_5 col_5 dd_5 k0_5 k1_5 k2_5 k3_5 k5_5 "ValueError.__new__"))
    (xbm_5 : PySem.HandSPX.refsVE bm_5 = true)
    (xsa_5 : PySem.W.findIn K (.ref C_5) "__setattr__" = some (some (.builtin "object.__setattr__")))
    (xex_5 : PySem.W.subIn K (.ref C_5) (.type "BaseException") = some true)
    (xty_5 : PySem.W.typeIn K (.ref C_5) = some (.type "type"))
    (xkC_5 : PySem.W.keepIn K (.ref C_5) = true)
    (xiC_5 : PySem.W.findIn K (.ref C_5) "__init__" = some (some (.ref I_5)))
    (xtI_5 : PySem.W.typeIn K (.ref I_5) = some (.type "function"))
    (xlF_5 : K.lookup I_5 = some ⟨oc_5, od_5, .func (PySem.W.fnX "__init__" "NoPlan.__init__" (defArgs s_NoPlan) (defBody s_NoPlan) (defScope s_NoPlan) [("__class__", B_5)] .none .none doc_5 pm_5 none (.ref c_5) ctv_5), osl_5⟩)
    (xcd_5 : PySem.W.codeIn K (.ref c_5) "NoPlan.__init__" = true)
    (xcc_5 : K.lookup B_5 = some ⟨c1_5, c2_5, .cell (some (.ref C_5)), c3_5⟩)
    (xlc_5 : K.lookup c_5 = some ⟨d1_5, d2_5, .fields vs_5, d3_5⟩)
    (xh2_5 : vs_5[2]? = some (.str file_5 tf_5))
    (xfi_5 : ((l.prog.main.file : Str) == file_5) = true)
    (xsu_5 : PySem.W.ks_superIn K C_5 C_5 "__init__" = some (some (.builtin "ValueError.__init__")))
    (xmr_5 : PySem.W.mroIn K C_5 (.ref C_5) = some true)
    (xve_5 : PySem.W.subIn K (.ref C_5) (.type "ValueError") = some true)
    (xan_5 : PySem.W.nsIn K cStatics "thirdparty.any" = some none)
    (xtp_5 : (l.prog.main.scope.names.lookup ("super" : Str)).isSome = false)
    (xno_5 : PySem.W.findIn K (.ref C_5) "witness" = some none)
    (xga_5 : PySem.W.findIn K (.ref C_5) "__getattribute__" = some (some (.builtin "BaseException.__getattribute__")))
    (xgg_5 : PySem.W.findIn K (.ref C_5) "__getattr__" = some none)
    (xhd_5 : PySem.W.hasDictIn K C_5 = true)
    (xex_w : PySem.W.subIn K (.ref we) (.type "BaseException") = some true)
    (xhd_w : PySem.W.hasDictIn K we = true)
    (xty_w : PySem.W.typeIn K (.ref we) = some (.type "type"))
    (xs_w_0 : PySem.W.subIn K (.ref C_0) (.ref we) = some true)
    (xs_w_1 : PySem.W.subIn K (.ref C_1) (.ref we) = some true)
    (xs_w_2 : PySem.W.subIn K (.ref C_2) (.ref we) = some true)
    (xs_w_3 : PySem.W.subIn K (.ref C_3) (.ref we) = some true)
    (xs_w_4 : PySem.W.subIn K (.ref C_4) (.ref we) = some true)
    (xs_w_5 : PySem.W.subIn K (.ref C_5) (.ref we) = some true)
    (xs_w_6 : PySem.W.subIn K (.ref C_6) (.ref we) = some true)
    (xs_w_w : PySem.W.subIn K (.ref we) (.ref we) = some true)
    (xxhn : PySem.W.specialIn K (.builtin "object.__class__") "__get__" = some (some (.builtin "getset_descriptor.__get__"))) (xxht : PySem.W.takesIn K (.builtin "object.__class__") = some true)
    (xxcl_0 : PySem.W.findIn K (.ref C_0) "__class__" = some (some (.builtin "object.__class__")))
    (xxmo_0 : PySem.W.mroIn K C_0 (.type "object") = some true)
    (xxcl_1 : PySem.W.findIn K (.ref C_1) "__class__" = some (some (.builtin "object.__class__")))
    (xxmo_1 : PySem.W.mroIn K C_1 (.type "object") = some true)
    (xxcl_2 : PySem.W.findIn K (.ref C_2) "__class__" = some (some (.builtin "object.__class__")))
    (xxmo_2 : PySem.W.mroIn K C_2 (.type "object") = some true)
    (xxcl_3 : PySem.W.findIn K (.ref C_3) "__class__" = some (some (.builtin "object.__class__")))
    (xxmo_3 : PySem.W.mroIn K C_3 (.type "object") = some true)
    (xxcl_4 : PySem.W.findIn K (.ref C_4) "__class__" = some (some (.builtin "object.__class__")))
    (xxmo_4 : PySem.W.mroIn K C_4 (.type "object") = some true)
    (xxcl_5 : PySem.W.findIn K (.ref C_5) "__class__" = some (some (.builtin "object.__class__")))
    (xxmo_5 : PySem.W.mroIn K C_5 (.type "object") = some true)
    (xxcl_6 : PySem.W.findIn K (.ref C_6) "__class__" = some (some (.builtin "object.__class__")))
    (xxmo_6 : PySem.W.mroIn K C_6 (.type "object") = some true)
    (xki_BadBound_0 : PySem.W.kitOne K (.ref C_0) (.ref C_4) = some false)
    (xki_BadBound_1 : PySem.W.kitOne K (.ref C_1) (.ref C_4) = some false)
    (xki_BadBound_2 : PySem.W.kitOne K (.ref C_2) (.ref C_4) = some false)
    (xki_BadBound_3 : PySem.W.kitOne K (.ref C_3) (.ref C_4) = some false)
    (xki_BadBound_4 : PySem.W.kitOne K (.ref C_4) (.ref C_4) = some true)
    (xki_BadBound_5 : PySem.W.kitOne K (.ref C_5) (.ref C_4) = some false)
    (xki_BadBound_6 : PySem.W.kitOne K (.ref C_6) (.ref C_4) = some false)
    (xki_BadLink_0 : PySem.W.kitOne K (.ref C_0) (.ref C_1) = some false)
    (xki_BadLink_1 : PySem.W.kitOne K (.ref C_1) (.ref C_1) = some true)
    (xki_BadLink_2 : PySem.W.kitOne K (.ref C_2) (.ref C_1) = some false)
    (xki_BadLink_3 : PySem.W.kitOne K (.ref C_3) (.ref C_1) = some false)
    (xki_BadLink_4 : PySem.W.kitOne K (.ref C_4) (.ref C_1) = some false)
    (xki_BadLink_5 : PySem.W.kitOne K (.ref C_5) (.ref C_1) = some false)
    (xki_BadLink_6 : PySem.W.kitOne K (.ref C_6) (.ref C_1) = some false)
    (xki_BadNews_0 : PySem.W.kitOne K (.ref C_0) (.ref C_2) = some false)
    (xki_BadNews_1 : PySem.W.kitOne K (.ref C_1) (.ref C_2) = some false)
    (xki_BadNews_2 : PySem.W.kitOne K (.ref C_2) (.ref C_2) = some true)
    (xki_BadNews_3 : PySem.W.kitOne K (.ref C_3) (.ref C_2) = some false)
    (xki_BadNews_4 : PySem.W.kitOne K (.ref C_4) (.ref C_2) = some false)
    (xki_BadNews_5 : PySem.W.kitOne K (.ref C_5) (.ref C_2) = some false)
    (xki_BadNews_6 : PySem.W.kitOne K (.ref C_6) (.ref C_2) = some false)
    (xki_BadNumber_0 : PySem.W.kitOne K (.ref C_0) (.ref C_0) = some true)
    (xki_BadNumber_1 : PySem.W.kitOne K (.ref C_1) (.ref C_0) = some false)
    (xki_BadNumber_2 : PySem.W.kitOne K (.ref C_2) (.ref C_0) = some false)
    (xki_BadNumber_3 : PySem.W.kitOne K (.ref C_3) (.ref C_0) = some false)
    (xki_BadNumber_4 : PySem.W.kitOne K (.ref C_4) (.ref C_0) = some false)
    (xki_BadNumber_5 : PySem.W.kitOne K (.ref C_5) (.ref C_0) = some false)
    (xki_BadNumber_6 : PySem.W.kitOne K (.ref C_6) (.ref C_0) = some false)
    (xki_BadPlan_0 : PySem.W.kitOne K (.ref C_0) (.ref C_3) = some false)
    (xki_BadPlan_1 : PySem.W.kitOne K (.ref C_1) (.ref C_3) = some false)
    (xki_BadPlan_2 : PySem.W.kitOne K (.ref C_2) (.ref C_3) = some false)
    (xki_BadPlan_3 : PySem.W.kitOne K (.ref C_3) (.ref C_3) = some true)
    (xki_BadPlan_4 : PySem.W.kitOne K (.ref C_4) (.ref C_3) = some false)
    (xki_BadPlan_5 : PySem.W.kitOne K (.ref C_5) (.ref C_3) = some false)
    (xki_BadPlan_6 : PySem.W.kitOne K (.ref C_6) (.ref C_3) = some false)
    (xki_BadText_0 : PySem.W.kitOne K (.ref C_0) (.ref C_6) = some false)
    (xki_BadText_1 : PySem.W.kitOne K (.ref C_1) (.ref C_6) = some false)
    (xki_BadText_2 : PySem.W.kitOne K (.ref C_2) (.ref C_6) = some false)
    (xki_BadText_3 : PySem.W.kitOne K (.ref C_3) (.ref C_6) = some false)
    (xki_BadText_4 : PySem.W.kitOne K (.ref C_4) (.ref C_6) = some false)
    (xki_BadText_5 : PySem.W.kitOne K (.ref C_5) (.ref C_6) = some false)
    (xki_BadText_6 : PySem.W.kitOne K (.ref C_6) (.ref C_6) = some true)
    (xki_NoPlan_0 : PySem.W.kitOne K (.ref C_0) (.ref C_5) = some false)
    (xki_NoPlan_1 : PySem.W.kitOne K (.ref C_1) (.ref C_5) = some false)
    (xki_NoPlan_2 : PySem.W.kitOne K (.ref C_2) (.ref C_5) = some false)
    (xki_NoPlan_3 : PySem.W.kitOne K (.ref C_3) (.ref C_5) = some false)
    (xki_NoPlan_4 : PySem.W.kitOne K (.ref C_4) (.ref C_5) = some false)
    (xki_NoPlan_5 : PySem.W.kitOne K (.ref C_5) (.ref C_5) = some true)
    (xki_NoPlan_6 : PySem.W.kitOne K (.ref C_6) (.ref C_5) = some false)
    (xki_ValueError_0 : PySem.W.kitOne K (.ref C_0) (.type "ValueError") = some true)
    (xki_ValueError_1 : PySem.W.kitOne K (.ref C_1) (.type "ValueError") = some true)
    (xki_ValueError_2 : PySem.W.kitOne K (.ref C_2) (.type "ValueError") = some true)
    (xki_ValueError_3 : PySem.W.kitOne K (.ref C_3) (.type "ValueError") = some true)
    (xki_ValueError_4 : PySem.W.kitOne K (.ref C_4) (.type "ValueError") = some true)
    (xki_ValueError_5 : PySem.W.kitOne K (.ref C_5) (.type "ValueError") = some true)
    (xki_ValueError_6 : PySem.W.kitOne K (.ref C_6) (.type "ValueError") = some true)
    (zValueError : PySem.W.nsIn K mainGlobals "ValueError" = some none)
    (zbool : PySem.W.nsIn K mainGlobals "bool" = some none)
    (zint : PySem.W.nsIn K mainGlobals "int" = some none)
    (zisinstance : PySem.W.nsIn K mainGlobals "isinstance" = some none)
    (zlen : PySem.W.nsIn K mainGlobals "len" = some none)
    (zlist : PySem.W.nsIn K mainGlobals "list" = some none)
    (zrange : PySem.W.nsIn K mainGlobals "range" = some none)
    (zsuper : PySem.W.nsIn K mainGlobals "super" = some none)
    : ∃ fd : FuncData, (∀ (s : Shared) (v : Value), BindsTo s fd ⟨[v], []⟩ [("_law_script", v)]) ∧ ∀ base : Heap, K.In base → base.Ns mainGlobals mg → FnOk l.prog w K mg base (L2.CX l.prog w) 6 fa fd ["_law_script"] (spl K) := by
  have e := hfa.symm.trans (PySem.W.mg_of X G a20)
  cases e
  have F12 := fun_mk (st := s_l_cell) l12 c12 k12
  have F13 := fun_mk (st := s_l_draw) l13 c13 k13
  have F14 := fun_mk (st := s_l_number) l14 c14 k14
  have F15 := fun_mk (st := s_l_numbers) l15 c15 k15
  have F16 := fun_mk (st := s_l_seen) l16 c16 k16
  have F17 := fun_mk (st := s_l_thrown) l17 c17 k17
  have F10 := fun_mk (st := s_l_is_integer) l10 c10 k10
  have F18 := fun_mk (st := s_l_keeps_number) l18 c18 k18
  have F11 := fun_mk (st := s_l_same_list) l11 c11 k11
  have F19 := fun_mk (st := s_l_keeps_list) l19 c19 k19
  have F20 := fun_mk (st := s_law) l20 c20 k20
  have T : Txt l.prog K mg (fun i => match i with | 12 => f12 | 13 => f13 | 14 => f14 | 15 => f15 | 16 => f16 | 17 => f17 | 10 => f10 | 18 => f18 | 11 => f11 | 19 => f19 | 20 => fa | _ => 0) (fun i => match i with | 12 => PySem.W.fnOf "_law_cell" "_law_cell" (defArgs s_l_cell) (defBody s_l_cell) (defScope s_l_cell) .none kV12 dc12 pm12 an12 cd12 ct12 | 13 => PySem.W.fnOf "_law_draw" "_law_draw" (defArgs s_l_draw) (defBody s_l_draw) (defScope s_l_draw) .none kV13 dc13 pm13 an13 cd13 ct13 | 14 => PySem.W.fnOf "_law_number" "_law_number" (defArgs s_l_number) (defBody s_l_number) (defScope s_l_number) .none kV14 dc14 pm14 an14 cd14 ct14 | 15 => PySem.W.fnOf "_law_numbers" "_law_numbers" (defArgs s_l_numbers) (defBody s_l_numbers) (defScope s_l_numbers) .none kV15 dc15 pm15 an15 cd15 ct15 | 16 => PySem.W.fnOf "_law_seen" "_law_seen" (defArgs s_l_seen) (defBody s_l_seen) (defScope s_l_seen) .none kV16 dc16 pm16 an16 cd16 ct16 | 17 => PySem.W.fnOf "_law_thrown" "_law_thrown" (defArgs s_l_thrown) (defBody s_l_thrown) (defScope s_l_thrown) .none kV17 dc17 pm17 an17 cd17 ct17 | 10 => PySem.W.fnOf "_law_is_integer" "_law_is_integer" (defArgs s_l_is_integer) (defBody s_l_is_integer) (defScope s_l_is_integer) .none kV10 dc10 pm10 an10 cd10 ct10 | 18 => PySem.W.fnOf "_law_keeps_number" "_law_keeps_number" (defArgs s_l_keeps_number) (defBody s_l_keeps_number) (defScope s_l_keeps_number) .none kV18 dc18 pm18 an18 cd18 ct18 | 11 => PySem.W.fnOf "_law_same_list" "_law_same_list" (defArgs s_l_same_list) (defBody s_l_same_list) (defScope s_l_same_list) .none kV11 dc11 pm11 an11 cd11 ct11 | 19 => PySem.W.fnOf "_law_keeps_list" "_law_keeps_list" (defArgs s_l_keeps_list) (defBody s_l_keeps_list) (defScope s_l_keeps_list) .none kV19 dc19 pm19 an19 cd19 ct19 | 20 => PySem.W.fnOf "law" "law" (defArgs s_law) (defBody s_law) (defScope s_law) .none kV20 dc20 pm20 an20 cd20 ct20 | _ => PySem.W.fnOf "law" "law" (defArgs s_law) (defBody s_law) (defScope s_law) .none kV20 dc20 pm20 an20 cd20 ct20) (fun i => match i with | 0 => C_0 | 1 => C_1 | 2 => C_2 | 3 => C_3 | 4 => C_4 | 5 => C_5 | 6 => C_6 | _ => we) we (fun i => match i with | 0 => I_0 | 1 => I_1 | 2 => I_2 | 3 => I_3 | 4 => I_4 | 5 => I_5 | 6 => I_6 | _ => 0) :=
    { F_l_cell := F12, g_l_cell := PySem.W.mg_of X G a12, b_l_cell := F12.binds (ps := ["_law_script", "_law_at"]) fun _ _ _ _ _ _ us hl => match us, hl with | [_, _], _ => rfl,
      F_l_draw := F13, g_l_draw := PySem.W.mg_of X G a13, b_l_draw := F13.binds (ps := ["_law_script", "_law_at", "_law_place", "_law_limit"]) fun _ _ _ _ _ _ us hl => match us, hl with | [_, _, _, _], _ => rfl,
      F_l_number := F14, g_l_number := PySem.W.mg_of X G a14, b_l_number := F14.binds (ps := ["_law_script", "_law_at"]) fun _ _ _ _ _ _ us hl => match us, hl with | [_, _], _ => rfl,
      F_l_numbers := F15, g_l_numbers := PySem.W.mg_of X G a15, b_l_numbers := F15.binds (ps := ["_law_script", "_law_at"]) fun _ _ _ _ _ _ us hl => match us, hl with | [_, _], _ => rfl,
      F_l_seen := F16, g_l_seen := PySem.W.mg_of X G a16, b_l_seen := F16.binds (ps := ["_law_error"]) fun _ _ _ _ _ _ us hl => match us, hl with | [_], _ => rfl,
      F_l_thrown := F17, g_l_thrown := PySem.W.mg_of X G a17, b_l_thrown := F17.binds (ps := ["_law_name", "_law_value"]) fun _ _ _ _ _ _ us hl => match us, hl with | [_, _], _ => rfl,
      F_l_is_integer := F10, g_l_is_integer := PySem.W.mg_of X G a10, b_l_is_integer := F10.binds (ps := ["_law_found"]) fun _ _ _ _ _ _ us hl => match us, hl with | [_], _ => rfl,
      F_l_keeps_number := F18, g_l_keeps_number := PySem.W.mg_of X G a18, b_l_keeps_number := F18.binds (ps := ["_law_name", "_law_value"]) fun _ _ _ _ _ _ us hl => match us, hl with | [_, _], _ => rfl,
      F_l_same_list := F11, g_l_same_list := PySem.W.mg_of X G a11, b_l_same_list := F11.binds (ps := ["_law_found", "_law_expected"]) fun _ _ _ _ _ _ us hl => match us, hl with | [_, _], _ => rfl,
      F_l_keeps_list := F19, g_l_keeps_list := PySem.W.mg_of X G a19, b_l_keeps_list := F19.binds (ps := ["_law_name", "_law_first", "_law_second"]) fun _ _ _ _ _ _ us hl => match us, hl with | [_, _, _], _ => rfl,
      F_law := F20, g_law := PySem.W.mg_of X G a20,
      z_ValueError := PySem.W.mg_none_of X G zValueError,
      z_bool := PySem.W.mg_none_of X G zbool,
      z_int := PySem.W.mg_none_of X G zint,
      z_isinstance := PySem.W.mg_none_of X G zisinstance,
      z_len := PySem.W.mg_none_of X G zlen,
      z_list := PySem.W.mg_none_of X G zlist,
      z_range := PySem.W.mg_none_of X G zrange,
      z_super := PySem.W.mg_none_of X G zsuper,
      x_BadBound := ext_mk (PySem.W.mg_of X G xat_4) xC_4 xbm_4 xsa_4 xex_4 xty_4 xkC_4 xiC_4 xtI_4 xlF_4 xcd_4 xcc_4 xlc_4 xh2_4 xfi_4 xsu_4 xmr_4 xve_4 xan_4 xtp_4 (PySem.W.mg_none_of X G zsuper) xno_4 xga_4 xgg_4 xhd_4,
      x_BadLink := ext_mk (PySem.W.mg_of X G xat_1) xC_1 xbm_1 xsa_1 xex_1 xty_1 xkC_1 xiC_1 xtI_1 xlF_1 xcd_1 xcc_1 xlc_1 xh2_1 xfi_1 xsu_1 xmr_1 xve_1 xan_1 xtp_1 (PySem.W.mg_none_of X G zsuper) xno_1 xga_1 xgg_1 xhd_1,
      x_BadNews := ext_mk (PySem.W.mg_of X G xat_2) xC_2 xbm_2 xsa_2 xex_2 xty_2 xkC_2 xiC_2 xtI_2 xlF_2 xcd_2 xcc_2 xlc_2 xh2_2 xfi_2 xsu_2 xmr_2 xve_2 xan_2 xtp_2 (PySem.W.mg_none_of X G zsuper) xno_2 xga_2 xgg_2 xhd_2,
      x_BadNumber := ext_mk (PySem.W.mg_of X G xat_0) xC_0 xbm_0 xsa_0 xex_0 xty_0 xkC_0 xiC_0 xtI_0 xlF_0 xcd_0 xcc_0 xlc_0 xh2_0 xfi_0 xsu_0 xmr_0 xve_0 xan_0 xtp_0 (PySem.W.mg_none_of X G zsuper) xno_0 xga_0 xgg_0 xhd_0,
      x_BadPlan := ext_mk (PySem.W.mg_of X G xat_3) xC_3 xbm_3 xsa_3 xex_3 xty_3 xkC_3 xiC_3 xtI_3 xlF_3 xcd_3 xcc_3 xlc_3 xh2_3 xfi_3 xsu_3 xmr_3 xve_3 xan_3 xtp_3 (PySem.W.mg_none_of X G zsuper) xno_3 xga_3 xgg_3 xhd_3,
      x_BadText := ext_mk (PySem.W.mg_of X G xat_6) xC_6 xbm_6 xsa_6 xex_6 xty_6 xkC_6 xiC_6 xtI_6 xlF_6 xcd_6 xcc_6 xlc_6 xh2_6 xfi_6 xsu_6 xmr_6 xve_6 xan_6 xtp_6 (PySem.W.mg_none_of X G zsuper) xno_6 xga_6 xgg_6 xhd_6,
      x_NoPlan := ext_mk (PySem.W.mg_of X G xat_5) xC_5 xbm_5 xsa_5 xex_5 xty_5 xkC_5 xiC_5 xtI_5 xlF_5 xcd_5 xcc_5 xlc_5 xh2_5 xfi_5 xsu_5 xmr_5 xve_5 xan_5 xtp_5 (PySem.W.mg_none_of X G zsuper) xno_5 xga_5 xgg_5 xhd_5,
      e_WrongError_0 := PySem.W.exm_ref xex_w xhd_w xty_w xs_w_0,
      e_WrongError_1 := PySem.W.exm_ref xex_w xhd_w xty_w xs_w_1,
      e_WrongError_2 := PySem.W.exm_ref xex_w xhd_w xty_w xs_w_2,
      e_WrongError_3 := PySem.W.exm_ref xex_w xhd_w xty_w xs_w_3,
      e_WrongError_4 := PySem.W.exm_ref xex_w xhd_w xty_w xs_w_4,
      e_WrongError_5 := PySem.W.exm_ref xex_w xhd_w xty_w xs_w_5,
      e_WrongError_6 := PySem.W.exm_ref xex_w xhd_w xty_w xs_w_6,
      hn := xxhn,
      ht := xxht,
      hC_0 := fun hn ht => ⟨xga_0, xgg_0, xex_0, xhd_0, xxcl_0, hn, ht, xxmo_0⟩,
      hC_1 := fun hn ht => ⟨xga_1, xgg_1, xex_1, xhd_1, xxcl_1, hn, ht, xxmo_1⟩,
      hC_2 := fun hn ht => ⟨xga_2, xgg_2, xex_2, xhd_2, xxcl_2, hn, ht, xxmo_2⟩,
      hC_3 := fun hn ht => ⟨xga_3, xgg_3, xex_3, xhd_3, xxcl_3, hn, ht, xxmo_3⟩,
      hC_4 := fun hn ht => ⟨xga_4, xgg_4, xex_4, xhd_4, xxcl_4, hn, ht, xxmo_4⟩,
      hC_5 := fun hn ht => ⟨xga_5, xgg_5, xex_5, xhd_5, xxcl_5, hn, ht, xxmo_5⟩,
      hC_6 := fun hn ht => ⟨xga_6, xgg_6, xex_6, xhd_6, xxcl_6, hn, ht, xxmo_6⟩,
      i_BadBound_0 := xki_BadBound_0,
      i_BadBound_1 := xki_BadBound_1,
      i_BadBound_2 := xki_BadBound_2,
      i_BadBound_3 := xki_BadBound_3,
      i_BadBound_4 := xki_BadBound_4,
      i_BadBound_5 := xki_BadBound_5,
      i_BadBound_6 := xki_BadBound_6,
      i_BadLink_0 := xki_BadLink_0,
      i_BadLink_1 := xki_BadLink_1,
      i_BadLink_2 := xki_BadLink_2,
      i_BadLink_3 := xki_BadLink_3,
      i_BadLink_4 := xki_BadLink_4,
      i_BadLink_5 := xki_BadLink_5,
      i_BadLink_6 := xki_BadLink_6,
      i_BadNews_0 := xki_BadNews_0,
      i_BadNews_1 := xki_BadNews_1,
      i_BadNews_2 := xki_BadNews_2,
      i_BadNews_3 := xki_BadNews_3,
      i_BadNews_4 := xki_BadNews_4,
      i_BadNews_5 := xki_BadNews_5,
      i_BadNews_6 := xki_BadNews_6,
      i_BadNumber_0 := xki_BadNumber_0,
      i_BadNumber_1 := xki_BadNumber_1,
      i_BadNumber_2 := xki_BadNumber_2,
      i_BadNumber_3 := xki_BadNumber_3,
      i_BadNumber_4 := xki_BadNumber_4,
      i_BadNumber_5 := xki_BadNumber_5,
      i_BadNumber_6 := xki_BadNumber_6,
      i_BadPlan_0 := xki_BadPlan_0,
      i_BadPlan_1 := xki_BadPlan_1,
      i_BadPlan_2 := xki_BadPlan_2,
      i_BadPlan_3 := xki_BadPlan_3,
      i_BadPlan_4 := xki_BadPlan_4,
      i_BadPlan_5 := xki_BadPlan_5,
      i_BadPlan_6 := xki_BadPlan_6,
      i_BadText_0 := xki_BadText_0,
      i_BadText_1 := xki_BadText_1,
      i_BadText_2 := xki_BadText_2,
      i_BadText_3 := xki_BadText_3,
      i_BadText_4 := xki_BadText_4,
      i_BadText_5 := xki_BadText_5,
      i_BadText_6 := xki_BadText_6,
      i_NoPlan_0 := xki_NoPlan_0,
      i_NoPlan_1 := xki_NoPlan_1,
      i_NoPlan_2 := xki_NoPlan_2,
      i_NoPlan_3 := xki_NoPlan_3,
      i_NoPlan_4 := xki_NoPlan_4,
      i_NoPlan_5 := xki_NoPlan_5,
      i_NoPlan_6 := xki_NoPlan_6,
      i_ValueError_0 := xki_ValueError_0,
      i_ValueError_1 := xki_ValueError_1,
      i_ValueError_2 := xki_ValueError_2,
      i_ValueError_3 := xki_ValueError_3,
      i_ValueError_4 := xki_ValueError_4,
      i_ValueError_5 := xki_ValueError_5,
      i_ValueError_6 := xki_ValueError_6,
      g_WrongError := PySem.W.mg_of X G aw }
  exact ⟨PySem.W.fnOf "law" "law" (defArgs s_law) (defBody s_law) (defScope s_law) .none kV20 dc20 pm20 an20 cd20 ct20, fun s v => .of_eq rfl, fun base _ _ => (ok_law T).imp (spl_imp law_true)⟩
end Z
open PySem PySem.W PyProof.Rows
set_option maxHeartbeats 0 in
theorem PySem.Challenge.cw_atmostwrong_k22_errors_holds : PySem.Challenge.rw_atmostwrong_k22_errors.Holds := by
  w_on; o_law; k_head; (case hw => w_witness2)
  k_fill
  refine L2.walk_of (l := PySem.Challenge.rw_atmostwrong_k22_errors) (n := 63) (k := 6) (x := "_law_script") (CX := fun w => L2.CX PySem.Challenge.rw_atmostwrong_k22_errors.prog w) (sp := fun w => Y.spl _) rfl (by decide) rfl ⟨rfl, by decide, by decide⟩ (fun w h Y => PySem.W.kIn_of Y) ?F (fun _ H a ns hl _ hS => Y.spl_law hl (fun _ hp => nomatch hp) hS) (fun _ _ _ _ _ h => by obtain ⟨_, _, _, _, _, _, _, _, _, _, _, _, z⟩ := h; exact z.elim)
  case F =>
    intro w mg fa h KX G hmg
    refine' Z.all_mk KX G hmg ?a12 ?l12 ?c12 ?k12 ?a13 ?l13 ?c13 ?k13 ?a14 ?l14 ?c14 ?k14 ?a15 ?l15 ?c15 ?k15 ?a16 ?l16 ?c16 ?k16 ?a17 ?l17 ?c17 ?k17 ?a10 ?l10 ?c10 ?k10 ?a18 ?l18 ?c18 ?k18 ?a11 ?l11 ?c11 ?k11 ?a19 ?l19 ?c19 ?k19 ?a20 ?l20 ?c20 ?k20 ?aw ?xat_4 ?xC_4 ?xbm_4 ?xsa_4 ?xex_4 ?xty_4 ?xkC_4 ?xiC_4 ?xtI_4 ?xlF_4 ?xcd_4 ?xcc_4 ?xlc_4 ?xh2_4 ?xfi_4 ?xsu_4 ?xmr_4 ?xve_4 ?xan_4 ?xtp_4 ?xno_4 ?xga_4 ?xgg_4 ?xhd_4 ?xat_1 ?xC_1 ?xbm_1 ?xsa_1 ?xex_1 ?xty_1 ?xkC_1 ?xiC_1 ?xtI_1 ?xlF_1 ?xcd_1 ?xcc_1 ?xlc_1 ?xh2_1 ?xfi_1 ?xsu_1 ?xmr_1 ?xve_1 ?xan_1 ?xtp_1 ?xno_1 ?xga_1 ?xgg_1 ?xhd_1 ?xat_2 ?xC_2 ?xbm_2 ?xsa_2 ?xex_2 ?xty_2 ?xkC_2 ?xiC_2 ?xtI_2 ?xlF_2 ?xcd_2 ?xcc_2 ?xlc_2 ?xh2_2 ?xfi_2 ?xsu_2 ?xmr_2 ?xve_2 ?xan_2 ?xtp_2 ?xno_2 ?xga_2 ?xgg_2 ?xhd_2 ?xat_0 ?xC_0 ?xbm_0 ?xsa_0 ?xex_0 ?xty_0 ?xkC_0 ?xiC_0 ?xtI_0 ?xlF_0 ?xcd_0 ?xcc_0 ?xlc_0 ?xh2_0 ?xfi_0 ?xsu_0 ?xmr_0 ?xve_0 ?xan_0 ?xtp_0 ?xno_0 ?xga_0 ?xgg_0 ?xhd_0 ?xat_3 ?xC_3 ?xbm_3 ?xsa_3 ?xex_3 ?xty_3 ?xkC_3 ?xiC_3 ?xtI_3 ?xlF_3 ?xcd_3 ?xcc_3 ?xlc_3 ?xh2_3 ?xfi_3 ?xsu_3 ?xmr_3 ?xve_3 ?xan_3 ?xtp_3 ?xno_3 ?xga_3 ?xgg_3 ?xhd_3 ?xat_6 ?xC_6 ?xbm_6 ?xsa_6 ?xex_6 ?xty_6 ?xkC_6 ?xiC_6 ?xtI_6 ?xlF_6 ?xcd_6 ?xcc_6 ?xlc_6 ?xh2_6 ?xfi_6 ?xsu_6 ?xmr_6 ?xve_6 ?xan_6 ?xtp_6 ?xno_6 ?xga_6 ?xgg_6 ?xhd_6 ?xat_5 ?xC_5 ?xbm_5 ?xsa_5 ?xex_5 ?xty_5 ?xkC_5 ?xiC_5 ?xtI_5 ?xlF_5 ?xcd_5 ?xcc_5 ?xlc_5 ?xh2_5 ?xfi_5 ?xsu_5 ?xmr_5 ?xve_5 ?xan_5 ?xtp_5 ?xno_5 ?xga_5 ?xgg_5 ?xhd_5 ?xex_w ?xhd_w ?xty_w ?xs_w_0 ?xs_w_1 ?xs_w_2 ?xs_w_3 ?xs_w_4 ?xs_w_5 ?xs_w_6 ?xs_w_w ?xxhn ?xxht ?xxcl_0 ?xxmo_0 ?xxcl_1 ?xxmo_1 ?xxcl_2 ?xxmo_2 ?xxcl_3 ?xxmo_3 ?xxcl_4 ?xxmo_4 ?xxcl_5 ?xxmo_5 ?xxcl_6 ?xxmo_6 ?xki_BadBound_0 ?xki_BadBound_1 ?xki_BadBound_2 ?xki_BadBound_3 ?xki_BadBound_4 ?xki_BadBound_5 ?xki_BadBound_6 ?xki_BadLink_0 ?xki_BadLink_1 ?xki_BadLink_2 ?xki_BadLink_3 ?xki_BadLink_4 ?xki_BadLink_5 ?xki_BadLink_6 ?xki_BadNews_0 ?xki_BadNews_1 ?xki_BadNews_2 ?xki_BadNews_3 ?xki_BadNews_4 ?xki_BadNews_5 ?xki_BadNews_6 ?xki_BadNumber_0 ?xki_BadNumber_1 ?xki_BadNumber_2 ?xki_BadNumber_3 ?xki_BadNumber_4 ?xki_BadNumber_5 ?xki_BadNumber_6 ?xki_BadPlan_0 ?xki_BadPlan_1 ?xki_BadPlan_2 ?xki_BadPlan_3 ?xki_BadPlan_4 ?xki_BadPlan_5 ?xki_BadPlan_6 ?xki_BadText_0 ?xki_BadText_1 ?xki_BadText_2 ?xki_BadText_3 ?xki_BadText_4 ?xki_BadText_5 ?xki_BadText_6 ?xki_NoPlan_0 ?xki_NoPlan_1 ?xki_NoPlan_2 ?xki_NoPlan_3 ?xki_NoPlan_4 ?xki_NoPlan_5 ?xki_NoPlan_6 ?xki_ValueError_0 ?xki_ValueError_1 ?xki_ValueError_2 ?xki_ValueError_3 ?xki_ValueError_4 ?xki_ValueError_5 ?xki_ValueError_6 ?zValueError ?zbool ?zint ?zisinstance ?zlen ?zlist ?zrange ?zsuper
    (case a12 => k_is); (case l12 => k_is); (case c12 => k_is); (case k12 => k_is); (case a13 => k_is); (case l13 => k_is); (case c13 => k_is); (case k13 => k_is); (case a14 => k_is); (case l14 => k_is); (case c14 => k_is); (case k14 => k_is); (case a15 => k_is); (case l15 => k_is); (case c15 => k_is); (case k15 => k_is); (case a16 => k_is); (case l16 => k_is); (case c16 => k_is); (case k16 => k_is); (case a17 => k_is); (case l17 => k_is); (case c17 => k_is); (case k17 => k_is); (case a10 => k_is); (case l10 => k_is); (case c10 => k_is); (case k10 => k_is); (case a18 => k_is); (case l18 => k_is); (case c18 => k_is); (case k18 => k_is); (case a11 => k_is); (case l11 => k_is); (case c11 => k_is); (case k11 => k_is); (case a19 => k_is); (case l19 => k_is); (case c19 => k_is); (case k19 => k_is); (case a20 => k_is); (case l20 => k_is); (case c20 => k_is); (case k20 => k_is); (case aw => k_is); (case xat_4 => k_is); (case xC_4 => k_is); (case xbm_4 => decide +kernel); (case xsa_4 => k_is); (case xex_4 => k_is); (case xty_4 => k_is); (case xkC_4 => k_is); (case xiC_4 => k_is); (case xtI_4 => k_is); (case xlF_4 => k_is); (case xcd_4 => k_is); (case xcc_4 => k_is); (case xlc_4 => k_is); (case xh2_4 => rfl); (case xfi_4 => rfl); (case xsu_4 => ks_is); (case xmr_4 => k_is); (case xve_4 => k_is); (case xan_4 => k_is); (case xtp_4 => decide +kernel); (case xno_4 => k_is); (case xga_4 => k_is); (case xgg_4 => k_is); (case xhd_4 => k_is); (case xat_1 => k_is); (case xC_1 => k_is); (case xbm_1 => decide +kernel); (case xsa_1 => k_is); (case xex_1 => k_is); (case xty_1 => k_is); (case xkC_1 => k_is); (case xiC_1 => k_is); (case xtI_1 => k_is); (case xlF_1 => k_is); (case xcd_1 => k_is); (case xcc_1 => k_is); (case xlc_1 => k_is); (case xh2_1 => rfl); (case xfi_1 => rfl); (case xsu_1 => ks_is); (case xmr_1 => k_is); (case xve_1 => k_is); (case xan_1 => k_is); (case xtp_1 => decide +kernel); (case xno_1 => k_is); (case xga_1 => k_is); (case xgg_1 => k_is); (case xhd_1 => k_is); (case xat_2 => k_is); (case xC_2 => k_is); (case xbm_2 => decide +kernel); (case xsa_2 => k_is); (case xex_2 => k_is); (case xty_2 => k_is); (case xkC_2 => k_is); (case xiC_2 => k_is); (case xtI_2 => k_is); (case xlF_2 => k_is); (case xcd_2 => k_is); (case xcc_2 => k_is); (case xlc_2 => k_is); (case xh2_2 => rfl); (case xfi_2 => rfl); (case xsu_2 => ks_is); (case xmr_2 => k_is); (case xve_2 => k_is); (case xan_2 => k_is); (case xtp_2 => decide +kernel); (case xno_2 => k_is); (case xga_2 => k_is); (case xgg_2 => k_is); (case xhd_2 => k_is); (case xat_0 => k_is); (case xC_0 => k_is); (case xbm_0 => decide +kernel); (case xsa_0 => k_is); (case xex_0 => k_is); (case xty_0 => k_is); (case xkC_0 => k_is); (case xiC_0 => k_is); (case xtI_0 => k_is); (case xlF_0 => k_is); (case xcd_0 => k_is); (case xcc_0 => k_is); (case xlc_0 => k_is); (case xh2_0 => rfl); (case xfi_0 => rfl); (case xsu_0 => ks_is); (case xmr_0 => k_is); (case xve_0 => k_is); (case xan_0 => k_is); (case xtp_0 => decide +kernel); (case xno_0 => k_is); (case xga_0 => k_is); (case xgg_0 => k_is); (case xhd_0 => k_is); (case xat_3 => k_is); (case xC_3 => k_is); (case xbm_3 => decide +kernel); (case xsa_3 => k_is); (case xex_3 => k_is); (case xty_3 => k_is); (case xkC_3 => k_is); (case xiC_3 => k_is); (case xtI_3 => k_is); (case xlF_3 => k_is); (case xcd_3 => k_is); (case xcc_3 => k_is); (case xlc_3 => k_is); (case xh2_3 => rfl); (case xfi_3 => rfl); (case xsu_3 => ks_is); (case xmr_3 => k_is); (case xve_3 => k_is); (case xan_3 => k_is); (case xtp_3 => decide +kernel); (case xno_3 => k_is); (case xga_3 => k_is); (case xgg_3 => k_is); (case xhd_3 => k_is); (case xat_6 => k_is); (case xC_6 => k_is); (case xbm_6 => decide +kernel); (case xsa_6 => k_is); (case xex_6 => k_is); (case xty_6 => k_is); (case xkC_6 => k_is); (case xiC_6 => k_is); (case xtI_6 => k_is); (case xlF_6 => k_is); (case xcd_6 => k_is); (case xcc_6 => k_is); (case xlc_6 => k_is); (case xh2_6 => rfl); (case xfi_6 => rfl); (case xsu_6 => ks_is); (case xmr_6 => k_is); (case xve_6 => k_is); (case xan_6 => k_is); (case xtp_6 => decide +kernel); (case xno_6 => k_is); (case xga_6 => k_is); (case xgg_6 => k_is); (case xhd_6 => k_is); (case xat_5 => k_is); (case xC_5 => k_is); (case xbm_5 => decide +kernel); (case xsa_5 => k_is); (case xex_5 => k_is); (case xty_5 => k_is); (case xkC_5 => k_is); (case xiC_5 => k_is); (case xtI_5 => k_is); (case xlF_5 => k_is); (case xcd_5 => k_is); (case xcc_5 => k_is); (case xlc_5 => k_is); (case xh2_5 => rfl); (case xfi_5 => rfl); (case xsu_5 => ks_is); (case xmr_5 => k_is); (case xve_5 => k_is); (case xan_5 => k_is); (case xtp_5 => decide +kernel); (case xno_5 => k_is); (case xga_5 => k_is); (case xgg_5 => k_is); (case xhd_5 => k_is); (case xex_w => k_is); (case xhd_w => k_is); (case xty_w => k_is); (case xs_w_0 => k_is); (case xs_w_1 => k_is); (case xs_w_2 => k_is); (case xs_w_3 => k_is); (case xs_w_4 => k_is); (case xs_w_5 => k_is); (case xs_w_6 => k_is); (case xs_w_w => k_is); (case xxhn => k_is); (case xxht => k_is); (case xxcl_0 => k_is); (case xxmo_0 => k_is); (case xxcl_1 => k_is); (case xxmo_1 => k_is); (case xxcl_2 => k_is); (case xxmo_2 => k_is); (case xxcl_3 => k_is); (case xxmo_3 => k_is); (case xxcl_4 => k_is); (case xxmo_4 => k_is); (case xxcl_5 => k_is); (case xxmo_5 => k_is); (case xxcl_6 => k_is); (case xxmo_6 => k_is); (case xki_BadBound_0 => kit_is); (case xki_BadBound_1 => kit_is); (case xki_BadBound_2 => kit_is); (case xki_BadBound_3 => kit_is); (case xki_BadBound_4 => kit_is); (case xki_BadBound_5 => kit_is); (case xki_BadBound_6 => kit_is); (case xki_BadLink_0 => kit_is); (case xki_BadLink_1 => kit_is); (case xki_BadLink_2 => kit_is); (case xki_BadLink_3 => kit_is); (case xki_BadLink_4 => kit_is); (case xki_BadLink_5 => kit_is); (case xki_BadLink_6 => kit_is); (case xki_BadNews_0 => kit_is); (case xki_BadNews_1 => kit_is); (case xki_BadNews_2 => kit_is); (case xki_BadNews_3 => kit_is); (case xki_BadNews_4 => kit_is); (case xki_BadNews_5 => kit_is); (case xki_BadNews_6 => kit_is); (case xki_BadNumber_0 => kit_is); (case xki_BadNumber_1 => kit_is); (case xki_BadNumber_2 => kit_is); (case xki_BadNumber_3 => kit_is); (case xki_BadNumber_4 => kit_is); (case xki_BadNumber_5 => kit_is); (case xki_BadNumber_6 => kit_is); (case xki_BadPlan_0 => kit_is); (case xki_BadPlan_1 => kit_is); (case xki_BadPlan_2 => kit_is); (case xki_BadPlan_3 => kit_is); (case xki_BadPlan_4 => kit_is); (case xki_BadPlan_5 => kit_is); (case xki_BadPlan_6 => kit_is); (case xki_BadText_0 => kit_is); (case xki_BadText_1 => kit_is); (case xki_BadText_2 => kit_is); (case xki_BadText_3 => kit_is); (case xki_BadText_4 => kit_is); (case xki_BadText_5 => kit_is); (case xki_BadText_6 => kit_is); (case xki_NoPlan_0 => kit_is); (case xki_NoPlan_1 => kit_is); (case xki_NoPlan_2 => kit_is); (case xki_NoPlan_3 => kit_is); (case xki_NoPlan_4 => kit_is); (case xki_NoPlan_5 => kit_is); (case xki_NoPlan_6 => kit_is); (case xki_ValueError_0 => kit_is); (case xki_ValueError_1 => kit_is); (case xki_ValueError_2 => kit_is); (case xki_ValueError_3 => kit_is); (case xki_ValueError_4 => kit_is); (case xki_ValueError_5 => kit_is); (case xki_ValueError_6 => kit_is); (case zValueError => k_is); (case zbool => k_is); (case zint => k_is); (case zisinstance => k_is); (case zlen => k_is); (case zlist => k_is); (case zrange => k_is); (case zsuper => k_is)
