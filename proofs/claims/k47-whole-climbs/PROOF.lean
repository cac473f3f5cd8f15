import PyProof.Rows.All
import Wide.All
import OpenK.AllK
import Wide.FinOn
import KE.KStateDown
import HandS.ForMost
import HandS.Evl
import HandS.Deep
import HandS.Style
import HandS.Conv
import HandS.IsInst
import HandS.WideBits
import HandS.Defaults
import HandS.Codes
import HandS.More
import PySem.Challenge.RW_seamlayers_k47_whole_climbs
import KE.SortData
import HandS.Wide
import PyProof.ReprRoads
import PyProof.WalksMore
import HandS.Ends
import HandS.HeadEnd
import HandS.Head0
import HandS.Head1
import HandS.Head2
import HandS.HeadHook1
import HandS.HeadHook2
import HandS.HeadHook3
import HandS.HeadHook4
set_option Elab.async false
set_option linter.all false
set_option maxRecDepth 100000
set_option maxHeartbeats 16000000
namespace C47

/-- rows of steps on lists, as products of involutions of Int -/
structure Sys where
  m : Nat
  V : List Int → Prop
  st : List Int
  step : List Int → Nat → List Int
  fn : List Int → Int → Int
  len : List Int → Nat
  s : Nat → Int → Int
  lo : Nat → Int
  hi : Nat → Int
  D : Int → Prop
  Sym : (Int → Int) → Prop

structure Sys.Ok (S : Sys) : Prop where
  vst : S.V S.st
  fst : ∀ x, S.fn S.st x = x
  lst : S.len S.st = 0
  vstep : ∀ {o g}, S.V o → g < S.m → S.V (S.step o g)
  fstep : ∀ {o g}, S.V o → g < S.m → ∀ x, S.fn (S.step o g) x = S.fn o (S.s g x)
  finj : ∀ {o o'}, S.V o → S.V o' → (∀ x, S.fn o x = S.fn o' x) → o = o'
  inv : ∀ {g}, g < S.m → ∀ x, S.s g (S.s g x) = x
  dom : ∀ {g x}, g < S.m → S.D x → S.D (S.s g x)
  comm : ∀ {g t}, g < S.m → S.Sym t → ∀ x, S.s g (t x) = t (S.s g x)
  one : S.Sym fun x => x
  sinv : ∀ {t}, S.Sym t → ∃ t', S.Sym t' ∧ (∀ x, t' (t x) = x) ∧ ∀ x, t (t' x) = x
  smul : ∀ {t u}, S.Sym t → S.Sym u → S.Sym fun x => t (u x)
  dlo : ∀ {g}, g < S.m → S.D (S.lo g)
  dhi : ∀ {g}, g < S.m → S.D (S.hi g)
  lohi : ∀ {g}, g < S.m → S.lo g < S.hi g
  slo : ∀ {g}, g < S.m → S.s g (S.lo g) = S.hi g
  moved : ∀ {g x}, g < S.m → S.s g x ≠ x → ∃ t, S.Sym t ∧ (x = t (S.lo g) ∨ x = t (S.hi g))
  mono : ∀ {g a b}, g < S.m → S.D a → S.D b → a < b → S.s g b < S.s g a →
    ∃ t, S.Sym t ∧ ((a = t (S.lo g) ∧ b = t (S.hi g)) ∨ (a = t (S.hi g) ∧ b = t (S.lo g)))
  fall : ∀ {o}, S.V o → (∀ g, g < S.m → ¬ S.fn o (S.hi g) < S.fn o (S.lo g)) → o = S.st
  up : ∀ {o g}, S.V o → g < S.m → S.fn o (S.lo g) < S.fn o (S.hi g) → S.len (S.step o g) = S.len o + 1
  dn : ∀ {o g}, S.V o → g < S.m → S.fn o (S.hi g) < S.fn o (S.lo g) → S.len (S.step o g) + 1 = S.len o

namespace Sys
variable {S : Sys}

/-- the order crossed at a step -/
def cr (S : Sys) (o : List Int) (g : Nat) : Prop := S.fn o (S.hi g) < S.fn o (S.lo g)
instance (S : Sys) (o : List Int) (g : Nat) : Decidable (S.cr o g) := inferInstanceAs (Decidable (_ < _))
/-- what a row makes, its last step first -/
def ml (S : Sys) : List Nat → List Int
  | [] => S.st
  | g :: r => S.step (S.ml r) g
def Row (S : Sys) (r : List Nat) : Prop := ∀ g ∈ r, g < S.m
/-- u is w with the items at p and q exchanged, and all that go with them -/
def Ex (S : Sys) (w u : List Int) (p q : Int) : Prop :=
  (∀ t, S.Sym t → S.fn u (t p) = S.fn w (t q) ∧ S.fn u (t q) = S.fn w (t p)) ∧
  ∀ x, (∀ t, S.Sym t → x ≠ t p ∧ x ≠ t q) → S.fn u x = S.fn w x
def Arr (S : Sys) (u w : List Int) : Prop :=
  S.V u ∧ S.V w ∧ ∃ p q, S.D p ∧ S.D q ∧ p < q ∧ S.fn w q < S.fn w p ∧ S.Ex w u p q
/-- one step of a row left out -/
inductive Del : List Nat → List Nat → Prop
  | head (g r) : Del r (g :: r)
  | tail (g r r') : Del r r' → Del (g :: r) (g :: r')
theorem Del.length {r r' : List Nat} (h : Del r r') : r.length + 1 = r'.length := by
  induction h with
  | head => rfl
  | tail g r r' _ ih => simp only [List.length_cons]; omega
theorem Del.mem {r r' : List Nat} (h : Del r r') : ∀ g ∈ r, g ∈ r' := by
  induction h with
  | head g r => exact fun x hx => List.mem_cons_of_mem _ hx
  | tail g r r' _ ih =>
    intro x hx
    rcases List.mem_cons.mp hx with e | hx
    · rw [e]; exact List.mem_cons_self
    · exact List.mem_cons_of_mem _ (ih x hx)

theorem Ok.shi (O : S.Ok) {g : Nat} (hg : g < S.m) : S.s g (S.hi g) = S.lo g := by rw [← O.slo hg, O.inv hg]
theorem Ok.sinj (O : S.Ok) {g : Nat} (hg : g < S.m) {x y : Int} (h : S.s g x = S.s g y) : x = y := by rw [← O.inv hg x, h, O.inv hg]
theorem Ok.ss (O : S.Ok) {o : List Int} {g : Nat} (v : S.V o) (hg : g < S.m) : S.step (S.step o g) g = o :=
  O.finj (O.vstep (O.vstep v hg) hg) v fun x => by rw [O.fstep (O.vstep v hg) hg, O.fstep v hg, O.inv hg]
theorem Row.tl {g : Nat} {r : List Nat} (h : S.Row (g :: r)) : S.Row r := fun x hx => h x (List.mem_cons_of_mem _ hx)
theorem Row.hd {g : Nat} {r : List Nat} (h : S.Row (g :: r)) : g < S.m := h g List.mem_cons_self
theorem Ok.vml (O : S.Ok) : ∀ {r : List Nat}, S.Row r → S.V (S.ml r)
  | [], _ => O.vst
  | _ :: _, h => O.vstep (O.vml h.tl) h.hd
theorem Ok.mlinj (O : S.Ok) : ∀ {r : List Nat}, S.Row r → ∀ {x y : Int}, S.fn (S.ml r) x = S.fn (S.ml r) y → x = y
  | [], _, x, y, h => by
    have h : S.fn S.st x = S.fn S.st y := h
    rwa [O.fst, O.fst] at h
  | g :: r, hr, x, y, h => by
    have h : S.fn (S.step (S.ml r) g) x = S.fn (S.step (S.ml r) g) y := h
    rw [O.fstep (O.vml hr.tl) hr.hd, O.fstep (O.vml hr.tl) hr.hd] at h
    exact O.sinj hr.hd (O.mlinj hr.tl h)

theorem Ex.swap {w u : List Int} {p q : Int} (h : S.Ex w u p q) : S.Ex w u q p :=
  ⟨fun t ht => ⟨(h.1 t ht).2, (h.1 t ht).1⟩, fun x hx => h.2 x fun t ht => ⟨(hx t ht).2, (hx t ht).1⟩⟩
theorem Ex.symm {w u : List Int} {p q : Int} (h : S.Ex w u p q) : S.Ex u w p q :=
  ⟨fun t ht => ⟨(h.1 t ht).2.symm, (h.1 t ht).1.symm⟩, fun x hx => (h.2 x hx).symm⟩
theorem Ok.uniq (O : S.Ok) {w u u' : List Int} {p q : Int} (v : S.V u) (v' : S.V u') (h : S.Ex w u p q) (h' : S.Ex w u' p q) : u = u' := by
  refine O.finj v v' fun x => ?_
  by_cases e : ∃ t, S.Sym t ∧ (x = t p ∨ x = t q)
  · obtain ⟨t, ht, e | e⟩ := e
    · rw [e, (h.1 t ht).1, (h'.1 t ht).1]
    · rw [e, (h.1 t ht).2, (h'.1 t ht).2]
  · have hx : ∀ t, S.Sym t → x ≠ t p ∧ x ≠ t q := fun t ht => ⟨fun z => e ⟨t, ht, .inl z⟩, fun z => e ⟨t, ht, .inr z⟩⟩
    rw [h.2 x hx, h'.2 x hx]
/-- a step exchanges -/
theorem Ok.ex0 (O : S.Ok) {w : List Int} {g : Nat} (v : S.V w) (hg : g < S.m) {t : Int → Int} (ht : S.Sym t) : S.Ex w (S.step w g) (t (S.lo g)) (t (S.hi g)) := by
  refine ⟨fun u hu => ?_, fun x hx => ?_⟩
  · rw [O.fstep v hg, O.fstep v hg, O.comm hg hu, O.comm hg hu, O.comm hg ht, O.comm hg ht, O.slo hg, O.shi hg]
    exact ⟨rfl, rfl⟩
  · rw [O.fstep v hg]
    by_cases e : S.s g x = x
    · rw [e]
    · obtain ⟨u, hu, h⟩ := O.moved hg e
      obtain ⟨t', ht', _, i2⟩ := O.sinv ht
      -- x = u lo = t (t' (u lo)); bring it to the form u' (t lo)
      exfalso
      obtain ⟨t'', ht'', j1, j2⟩ := O.sinv ht
      have := hx (fun y => u (t'' y)) (O.smul hu ht'')
      simp only [j1] at this
      rcases h with h | h
      · exact this.1 h
      · exact this.2 h
theorem Ok.ex1 (O : S.Ok) {w : List Int} {g : Nat} (v : S.V w) (hg : g < S.m) {t : Int → Int} {p q : Int} (ht : S.Sym t)
    (h : (p = t (S.lo g) ∧ q = t (S.hi g)) ∨ (p = t (S.hi g) ∧ q = t (S.lo g))) : S.Ex w (S.step w g) p q := by
  rcases h with ⟨rfl, rfl⟩ | ⟨rfl, rfl⟩
  · exact O.ex0 v hg ht
  · exact (O.ex0 v hg ht).swap
theorem Ok.exs (O : S.Ok) {w u : List Int} {p q : Int} {g : Nat} (v : S.V w) (vu : S.V u) (hg : g < S.m) (h : S.Ex w u p q) : S.Ex (S.step w g) (S.step u g) (S.s g p) (S.s g q) := by
  refine ⟨fun t ht => ?_, fun x hx => ?_⟩
  · rw [O.fstep vu hg, O.fstep vu hg, O.fstep v hg, O.fstep v hg, O.comm hg ht, O.comm hg ht, O.inv hg, O.inv hg]
    exact h.1 t ht
  · rw [O.fstep vu hg, O.fstep v hg]
    refine h.2 _ fun t ht => ⟨fun z => (hx t ht).1 ?_, fun z => (hx t ht).2 ?_⟩
    · rw [← O.comm hg ht, ← z, O.inv hg]
    · rw [← O.comm hg ht, ← z, O.inv hg]
/-- the lifting lemma of one arrow -/
theorem Ok.lift (O : S.Ok) {u w : List Int} {g : Nat} (a : S.Arr u w) (hg : g < S.m) : S.Arr (S.step u g) (S.step w g) ∨ u = S.step w g := by
  obtain ⟨vu, vw, p, q, dp, dq, hpq, hw, e⟩ := a
  rcases Int.lt_trichotomy (S.s g p) (S.s g q) with h | h | h
  · refine .inl ⟨O.vstep vu hg, O.vstep vw hg, _, _, O.dom hg dp, O.dom hg dq, h, ?_, O.exs vw vu hg e⟩
    rw [O.fstep vw hg, O.fstep vw hg, O.inv hg, O.inv hg]; exact hw
  · have := O.sinj hg h; omega
  · obtain ⟨t, ht, z⟩ := O.mono hg dp dq hpq h
    exact .inr (O.uniq vu (O.vstep vw hg) e (O.ex1 vw hg ht z))
theorem Arr.vu {u w : List Int} (a : S.Arr u w) : S.V u := a.1
theorem Arr.vw {u w : List Int} (a : S.Arr u w) : S.V w := a.2.1
/-- strong exchange -/
theorem Ok.exch (O : S.Ok) : ∀ {r : List Nat}, S.Row r → ∀ {u : List Int}, S.Arr u (S.ml r) → ∃ r', Del r' r ∧ u = S.ml r'
  | [], _, u, a => by
    obtain ⟨_, _, p, q, _, _, h1, h2, _⟩ := a
    have h2 : S.fn S.st q < S.fn S.st p := h2
    rw [O.fst, O.fst] at h2; omega
  | g :: r, hr, u, a => by
    have back : S.step (S.ml (g :: r)) g = S.ml r := O.ss (O.vml hr.tl) hr.hd
    rcases O.lift a hr.hd with h | h
    · rw [back] at h
      obtain ⟨r', d, e⟩ := O.exch hr.tl h
      refine ⟨g :: r', .tail _ _ _ d, ?_⟩
      rw [← O.ss a.vu hr.hd, e]; rfl
    · exact ⟨r, .head _ _, by rw [h, back]⟩

theorem Ok.word (O : S.Ok) : ∀ (n : Nat) {o : List Int}, S.V o → S.len o = n → ∃ r, S.Row r ∧ S.ml r = o ∧ r.length = n
  | n, o, v, hn => by
    by_cases h : ∃ g, g < S.m ∧ S.cr o g
    · obtain ⟨g, hg, c⟩ := h
      have hd := O.dn v hg c
      match n, hn with
      | 0, hn => omega
      | n + 1, hn =>
        obtain ⟨r, h1, h2, h3⟩ := O.word n (O.vstep v hg) (by omega)
        refine ⟨g :: r, fun x hx => ?_, ?_, by simp [h3]⟩
        · rcases List.mem_cons.mp hx with e | hx
          · rw [e]; exact hg
          · exact h1 x hx
        · show S.step (S.ml r) g = o
          rw [h2, O.ss v hg]
    · have e := O.fall v fun g hg c => h ⟨g, hg, c⟩
      refine ⟨[], fun x hx => by simp at hx, e.symm, ?_⟩
      rw [← hn, e, O.lst]; rfl
theorem Ok.inj (O : S.Ok) {o : List Int} (v : S.V o) {x y : Int} (h : S.fn o x = S.fn o y) : x = y := by
  obtain ⟨r, h1, h2, _⟩ := O.word _ v rfl
  subst h2
  exact O.mlinj h1 h
theorem Ok.len_cases (O : S.Ok) {o : List Int} {g : Nat} (v : S.V o) (hg : g < S.m) :
    (S.len (S.step o g) = S.len o + 1 ∧ ¬ S.cr o g) ∨ (S.len (S.step o g) + 1 = S.len o ∧ S.cr o g) := by
  rcases Int.lt_trichotomy (S.fn o (S.lo g)) (S.fn o (S.hi g)) with h | h | h
  · exact .inl ⟨O.up v hg h, fun z => by have : S.fn o (S.hi g) < S.fn o (S.lo g) := z; omega⟩
  · have := O.inj v h; have := O.lohi hg; omega
  · exact .inr ⟨O.dn v hg h, h⟩
theorem Ok.mllen (O : S.Ok) : ∀ {r : List Nat}, S.Row r → S.len (S.ml r) ≤ r.length
  | [], _ => by show S.len S.st ≤ 0; rw [O.lst]; exact Nat.le_refl _
  | g :: r, h => by
    have := O.mllen h.tl
    have := O.len_cases (O.vml h.tl) h.hd
    show S.len (S.step (S.ml r) g) ≤ r.length + 1
    omega
theorem Ok.arr_len (O : S.Ok) {u w : List Int} (a : S.Arr u w) : S.len u < S.len w := by
  obtain ⟨r, h1, h2, h3⟩ := O.word _ a.vw rfl
  subst h2
  obtain ⟨r', d, e⟩ := O.exch h1 a
  have := O.mllen (r := r') fun x hx => h1 x (d.mem x hx)
  have := d.length
  rw [e]; omega
theorem Ok.arr_step (O : S.Ok) {w : List Int} {g : Nat} (v : S.V w) (hg : g < S.m) (c : S.cr w g) : S.Arr (S.step w g) w :=
  ⟨O.vstep v hg, v, S.lo g, S.hi g, O.dlo hg, O.dhi hg, O.lohi hg, c, O.ex0 v hg O.one⟩
theorem Ok.cr_step (O : S.Ok) {o : List Int} {g : Nat} (v : S.V o) (hg : g < S.m) : S.cr (S.step o g) g ↔ ¬ S.cr o g := by
  have h1 := O.len_cases (O.vstep v hg) hg
  rw [O.ss v hg] at h1
  have h2 := O.len_cases v hg
  rcases h1 with ⟨a, b⟩ | ⟨a, b⟩ <;> rcases h2 with ⟨c, d⟩ | ⟨c, d⟩ <;> first | omega | exact ⟨fun z => absurd z b, fun z => absurd d z⟩ | exact ⟨fun _ => d, fun _ => b⟩
theorem Ok.arr_step' (O : S.Ok) {w : List Int} {g : Nat} (v : S.V w) (hg : g < S.m) (c : ¬ S.cr w g) : S.Arr w (S.step w g) := by
  have h := O.arr_step (O.vstep v hg) hg ((O.cr_step v hg).mpr c)
  rwa [O.ss v hg] at h
/-- a row with one step left out -/
theorem Ok.del_arr (O : S.Ok) {r' r : List Nat} (d : Del r' r) : S.Row r → S.Arr (S.ml r') (S.ml r) ∨ S.Arr (S.ml r) (S.ml r') := by
  induction d with
  | head g r =>
    intro h
    by_cases c : S.cr (S.ml r) g
    · exact .inr (O.arr_step (O.vml h.tl) h.hd c)
    · exact .inl (O.arr_step' (O.vml h.tl) h.hd c)
  | tail g r r' d ih =>
    intro h
    have hr : S.Row r := fun x hx => h.tl x (d.mem x hx)
    rcases ih h.tl with a | a
    · rcases O.lift a h.hd with b | b
      · exact .inl b
      · refine .inr ?_
        show S.Arr (S.step (S.ml r') g) (S.step (S.ml r) g)
        have : S.step (S.ml r) g = S.ml r' := by rw [b, O.ss (O.vml h.tl) h.hd]
        rw [this, ← b]; exact a
    · rcases O.lift a h.hd with b | b
      · exact .inr b
      · refine .inl ?_
        show S.Arr (S.step (S.ml r) g) (S.step (S.ml r') g)
        have : S.step (S.ml r') g = S.ml r := by rw [b, O.ss (O.vml hr) h.hd]
        rw [this, ← b]; exact a

/-- the order by arrows -/
inductive Le (S : Sys) : List Int → List Int → Prop
  | refl {u} : S.V u → Le S u u
  | tail {u v w} : Le S u v → S.Arr v w → Le S u w
theorem Le.vu {u w : List Int} (h : Le S u w) : S.V u := by
  induction h with
  | refl v => exact v
  | tail _ _ ih => exact ih
theorem Le.vw {u w : List Int} (h : Le S u w) : S.V w := by
  cases h with
  | refl v => exact v
  | tail _ a => exact a.vw
theorem Le.one {u w : List Int} (a : S.Arr u w) : Le S u w := .tail (.refl a.vu) a
theorem Le.trans {u v w : List Int} (h : Le S u v) (h' : Le S v w) : Le S u w := by
  induction h' with
  | refl _ => exact h
  | tail _ a ih => exact .tail ih a
theorem Ok.le_len (O : S.Ok) {u w : List Int} (h : Le S u w) : u = w ∨ S.len u < S.len w := by
  induction h with
  | refl _ => exact .inl rfl
  | tail h a ih =>
    have := O.arr_len a
    rcases ih with e | e
    · rw [e]; exact .inr this
    · exact .inr (by omega)
def lesser (S : Sys) (o : List Int) (g : Nat) : List Int := if S.cr o g then S.step o g else o
def upper (S : Sys) (o : List Int) (g : Nat) : List Int := if S.cr o g then o else S.step o g
theorem Ok.vlesser (O : S.Ok) {o : List Int} {g : Nat} (v : S.V o) (hg : g < S.m) : S.V (S.lesser o g) := by
  unfold lesser; split
  · exact O.vstep v hg
  · exact v
theorem Ok.vupper (O : S.Ok) {o : List Int} {g : Nat} (v : S.V o) (hg : g < S.m) : S.V (S.upper o g) := by
  unfold upper; split
  · exact v
  · exact O.vstep v hg
theorem Ok.lesser_le (O : S.Ok) {o : List Int} {g : Nat} (v : S.V o) (hg : g < S.m) : Le S (S.lesser o g) o ∧ Le S (S.lesser o g) (S.step o g) := by
  unfold lesser; split
  · rename_i c; exact ⟨.one (O.arr_step v hg c), .refl (O.vstep v hg)⟩
  · rename_i c; exact ⟨.refl v, .one (O.arr_step' v hg c)⟩
theorem Ok.le_upper (O : S.Ok) {o : List Int} {g : Nat} (v : S.V o) (hg : g < S.m) : Le S o (S.upper o g) ∧ Le S (S.step o g) (S.upper o g) := by
  unfold upper; split
  · rename_i c; exact ⟨.refl v, .one (O.arr_step v hg c)⟩
  · rename_i c; exact ⟨.one (O.arr_step' v hg c), .refl (O.vstep v hg)⟩
theorem Ok.lesser_step (O : S.Ok) {o : List Int} {g : Nat} (v : S.V o) (hg : g < S.m) : S.lesser (S.step o g) g = S.lesser o g := by
  unfold lesser
  by_cases c : S.cr o g
  · rw [if_pos c, if_neg fun z => (O.cr_step v hg).mp z c]
  · rw [if_neg c, if_pos ((O.cr_step v hg).mpr c), O.ss v hg]
theorem Ok.upper_step (O : S.Ok) {o : List Int} {g : Nat} (v : S.V o) (hg : g < S.m) : S.upper (S.step o g) g = S.upper o g := by
  unfold upper
  by_cases c : S.cr o g
  · rw [if_pos c, if_neg fun z => (O.cr_step v hg).mp z c, O.ss v hg]
  · rw [if_neg c, if_pos ((O.cr_step v hg).mpr c)]
theorem Ok.lesser_mono (O : S.Ok) {x y : List Int} {g : Nat} (h : Le S x y) (hg : g < S.m) : Le S (S.lesser x g) (S.lesser y g) := by
  induction h with
  | refl v => exact .refl (O.vlesser v hg)
  | tail h a ih =>
    refine ih.trans ?_
    rename_i v w
    rcases O.lift a hg with b | b
    · show Le S _ (S.lesser w g)
      unfold lesser
      by_cases c : S.cr w g
      · rw [if_pos c]; exact (O.lesser_le a.vu hg).2.trans (.one b)
      · rw [if_neg c]; exact (O.lesser_le a.vu hg).1.trans (.one a)
    · rw [b, O.lesser_step a.vw hg]; exact .refl (O.vlesser a.vw hg)
theorem Ok.upper_mono (O : S.Ok) {x y : List Int} {g : Nat} (h : Le S x y) (hg : g < S.m) : Le S (S.upper x g) (S.upper y g) := by
  induction h with
  | refl v => exact .refl (O.vupper v hg)
  | tail h a ih =>
    refine ih.trans ?_
    rename_i v w
    rcases O.lift a hg with b | b
    · show Le S (S.upper v g) _
      unfold upper
      by_cases c : S.cr v g
      · rw [if_pos c]; exact (Le.one a).trans (O.le_upper a.vw hg).1
      · rw [if_neg c]; exact (Le.one b).trans (O.le_upper a.vw hg).2
    · rw [b, O.upper_step a.vw hg]; exact .refl (O.vupper a.vw hg)
/-- beneath, by any fall -/
theorem Ok.le_iff (O : S.Ok) {u w : List Int} {g : Nat} (v : S.V u) (vw : S.V w) (hg : g < S.m) (c : S.cr w g) : Le S u w ↔ Le S (S.lesser u g) (S.step w g) := by
  constructor
  · intro h
    have := O.lesser_mono h hg
    rwa [show S.lesser w g = S.step w g from if_pos c] at this
  · intro h
    have := O.upper_mono h hg
    rw [O.upper_step vw hg, show S.upper w g = w from if_pos c] at this
    have e : S.upper (S.lesser u g) g = S.upper u g := by
      unfold lesser; split
      · exact O.upper_step v hg
      · rfl
    rw [e] at this
    exact (O.le_upper v hg).1.trans this
theorem Ok.le_st (O : S.Ok) {u : List Int} (v : S.V u) : Le S u S.st ↔ u = S.st := by
  constructor
  · intro h
    rcases O.le_len h with e | e
    · exact e
    · rw [O.lst] at e; omega
  · intro h; rw [h]; exact .refl O.vst
theorem Ok.st_le (O : S.Ok) : ∀ (n : Nat) {w : List Int}, S.V w → S.len w = n → Le S S.st w := by
  intro n
  induction n with
  | zero =>
    intro w v h
    obtain ⟨r, _, h2, h3⟩ := O.word _ v h
    cases r with
    | nil => rw [← h2]; exact .refl O.vst
    | cons => simp at h3
  | succ n ih =>
    intro w v h
    obtain ⟨r, h1, h2, h3⟩ := O.word _ v h
    match r, h3 with
    | g :: r, h3 =>
      subst h2
      have hv := O.vml h1.tl
      have hl := O.mllen h1.tl
      have hl2 := O.len_cases hv h1.hd
      have h : S.len (S.step (S.ml r) g) = n + 1 := h
      simp only [List.length_cons] at h3
      rcases hl2 with ⟨a, b⟩ | ⟨a, b⟩
      · exact (ih hv (by omega)).trans (.one (O.arr_step' hv h1.hd b))
      · omega
/-- what is beneath is beneath something that has one crossing less -/
theorem Ok.coatom (O : S.Ok) : ∀ (n : Nat) {u w : List Int}, S.len w = n → Le S u w → u ≠ w → ∃ v, Le S u v ∧ S.Arr v w ∧ S.len v + 1 = S.len w := by
  intro n
  induction n using Nat.strongRecOn with
  | ind n ih =>
    intro u w hn h ne
    have vw := h.vw
    have vu := h.vu
    have hl : S.len u < S.len w := (O.le_len h).resolve_left ne
    by_cases hf : ∃ g, g < S.m ∧ S.cr w g
    · obtain ⟨g, hg, c⟩ := hf
      have hd := O.dn vw hg c
      by_cases hu : Le S u (S.step w g)
      · exact ⟨_, hu, O.arr_step vw hg c, hd⟩
      · have h1 := (O.le_iff vu vw hg c).mp h
        have cu : S.cr u g := by
          refine Decidable.byContradiction fun z => hu ?_
          rwa [show S.lesser u g = u from if_neg z] at h1
        rw [show S.lesser u g = S.step u g from if_pos cu] at h1
        have ne1 : S.step u g ≠ S.step w g := fun z => ne (by rw [← O.ss vu hg, z, O.ss vw hg])
        obtain ⟨v, a1, a2, a3⟩ := ih _ (by omega) (w := S.step w g) rfl h1 ne1
        have up : Le S u (S.upper v g) := by
          have := O.upper_mono a1 hg
          rw [O.upper_step vu hg] at this
          exact (O.le_upper vu hg).1.trans this
        rcases O.lift a2 hg with b | b
        · rw [O.ss vw hg] at b
          by_cases cv : S.cr v g
          · refine absurd ?_ hu
            rw [show S.upper v g = v from if_pos cv] at up
            exact up.tail a2
          · rw [show S.upper v g = S.step v g from if_neg cv] at up
            refine ⟨_, up, b, ?_⟩
            rcases O.len_cases a2.vu hg with ⟨e, _⟩ | ⟨_, e⟩
            · omega
            · exact absurd e cv
        · rw [O.ss vw hg] at b
          rw [b] at a3; omega
    · have e := O.fall vw fun g hg c => hf ⟨g, hg, c⟩
      rw [e, O.lst] at hl; omega
/-- greedy rows -/
def greedy (S : Sys) : List Nat → List Int
  | [] => S.st
  | g :: r => S.upper (S.greedy r) g
inductive Part : List Nat → List Nat → Prop
  | nil : Part [] []
  | skip {g r r'} : Part r r' → Part r (g :: r')
  | keep {g r r'} : Part r r' → Part (g :: r) (g :: r')
theorem Ok.vgreedy (O : S.Ok) : ∀ {r : List Nat}, S.Row r → S.V (S.greedy r)
  | [], _ => O.vst
  | _ :: _, h => O.vupper (O.vgreedy h.tl) h.hd
theorem Ok.part_le (O : S.Ok) {r r' : List Nat} (p : Part r r') : S.Row r' → Le S (S.ml r) (S.greedy r') := by
  induction p with
  | nil => intro _; exact .refl O.vst
  | skip p ih => intro h; exact (ih h.tl).trans (O.le_upper (O.vgreedy h.tl) h.hd).1
  | keep p ih =>
    intro h
    have := ih h.tl
    exact (O.le_upper this.vu h.hd).2.trans (O.upper_mono this h.hd)
/-- of unlike lengths by one: beneath exactly if it comes by leaving a step out, of any row of w -/
theorem Ok.le_del (O : S.Ok) {u : List Int} {r : List Nat} (h : S.Row r) (vu : S.V u) (hl : S.len u + 1 = S.len (S.ml r)) :
    Le S u (S.ml r) ↔ ∃ r', Del r' r ∧ u = S.ml r' := by
  constructor
  · intro l
    cases l with
    | refl _ => omega
    | tail l a =>
      have := O.arr_len a
      rcases O.le_len l with e | e
      · rw [e]; exact O.exch h a
      · omega
  · rintro ⟨r', d, e⟩
    subst e
    rcases O.del_arr d h with a | a
    · exact .one a
    · have := O.arr_len a; omega
end Sys
end C47
namespace C47
inductive Nm | plain | mirror | ring deriving DecidableEq
structure Kd where
  nm : Nm
  n : Nat
/-- the item at a place -/
def gi (o : List Int) (i : Nat) : Int := o[i]?.getD 0
theorem gi_set (o : List Int) (i : Nat) (v : Int) (j : Nat) : gi (o.set i v) j = if i = j ∧ i < o.length then v else gi o j := by
  unfold gi
  rw [List.getElem?_set]
  by_cases h : i = j
  · subst h
    rw [if_pos rfl]
    by_cases h2 : i < o.length
    · rw [if_pos h2, if_pos ⟨rfl, h2⟩]; rfl
    · rw [if_neg h2, if_neg fun z => h2 z.2, List.getElem?_eq_none (by omega)]
  · rw [if_neg h, if_neg fun z => h z.1]
theorem gi_set_ne {o : List Int} {i : Nat} {v : Int} {j : Nat} (h : i ≠ j) : gi (o.set i v) j = gi o j := by rw [gi_set, if_neg fun z => h z.1]
theorem gi_set_eq {o : List Int} {i : Nat} {v : Int} (h : i < o.length) : gi (o.set i v) i = v := by rw [gi_set, if_pos ⟨rfl, h⟩]
theorem gi_lt {o : List Int} {i : Nat} (h : i < o.length) : gi o i = o[i] := by unfold gi; rw [List.getElem?_eq_getElem h]; rfl
theorem gi_ext {o o' : List Int} (hl : o.length = o'.length) (h : ∀ i, i < o.length → gi o i = gi o' i) : o = o' :=
  List.ext_getElem hl fun i h1 h2 => by rw [← gi_lt h1, ← gi_lt h2]; exact h i h1
theorem gi_map {o : List Int} {f : Int → Int} {i : Nat} (h : i < o.length) : gi (o.map f) i = f (gi o i) := by
  rw [gi_lt (by simpa using h), gi_lt h, List.getElem_map]
def irange (a : Int) (n : Nat) : List Int := (List.range n).map fun (i : Nat) => a + (i : Int)
theorem irange_len (a : Int) (n : Nat) : (irange a n).length = n := by simp [irange]
theorem gi_irange {a : Int} {n i : Nat} (h : i < n) : gi (irange a n) i = a + i := by
  rw [gi_lt (by rw [irange_len]; exact h)]
  simp [irange]
theorem mem_irange {a : Int} {n : Nat} {x : Int} : x ∈ irange a n ↔ a ≤ x ∧ x < a + n := by
  unfold irange
  rw [List.mem_map]
  constructor
  · rintro ⟨i, hi, rfl⟩
    have := List.mem_range.mp hi
    omega
  · rintro ⟨h1, h2⟩
    exact ⟨(x - a).toNat, List.mem_range.mpr (by omega), by omega⟩
theorem irange_lt (a : Int) (n : Nat) : (irange a n).Pairwise (· < ·) := by
  unfold irange
  rw [List.pairwise_map]
  exact List.pairwise_lt_range.imp fun {i j} h => by omega
theorem gi_mem {o : List Int} {i : Nat} (h : i < o.length) : gi o i ∈ o := by rw [gi_lt h]; exact List.getElem_mem h
theorem mem_gi {o : List Int} {x : Int} (h : x ∈ o) : ∃ i, i < o.length ∧ gi o i = x := by
  obtain ⟨i, hi, e⟩ := List.mem_iff_getElem.mp h
  exact ⟨i, hi, by rw [gi_lt hi, e]⟩

namespace Kd
def steps (k : Kd) : Nat := match k.nm with | .plain => k.n - 1 | _ => k.n
def first (k : Kd) : Int := if k.nm = .mirror then 1 else 0
def start (k : Kd) : List Int := irange k.first k.n
def ok (k : Kd) : Prop := match k.nm with | .ring => 2 ≤ k.n | _ => 1 ≤ k.n
end Kd
def crossedB (k : Kd) (o : List Int) (g : Nat) : Bool :=
  match k.nm with
  | .mirror => if g = 0 then decide (gi o 0 < 0) else decide (gi o g < gi o (g - 1))
  | .ring => if g + 1 = k.n then decide (gi o 0 + k.n < gi o g) else decide (gi o (g + 1) < gi o g)
  | .plain => decide (gi o (g + 1) < gi o g)
def swapAt (o : List Int) (i : Nat) : List Int := (o.set i (gi o (i + 1))).set (i + 1) (gi o i)
def stepL (k : Kd) (o : List Int) (g : Nat) : List Int :=
  match k.nm with
  | .mirror => if g = 0 then o.set 0 (-(gi o 0)) else swapAt o (g - 1)
  | .ring => if g + 1 = k.n then (o.set 0 (gi o g - k.n)).set g (gi o 0 + k.n) else swapAt o g
  | .plain => swapAt o g
def btw (k : Kd) (lo hi : Int) : Nat :=
  match k.nm with
  | .ring => ((hi - lo) / (k.n : Int)).natAbs
  | .mirror => (if hi < lo then 1 else 0) + (if lo + hi < 0 then 1 else 0)
  | .plain => if hi < lo then 1 else 0
def neg1 (k : Kd) (lo : Int) : Nat := if k.nm = .mirror ∧ lo < 0 then 1 else 0
def crs (k : Kd) : List Int → Nat
  | [] => 0
  | x :: l => (l.map (btw k x)).sum + neg1 k x + crs k l
def absI (x : Int) : Int := if x < 0 then -x else x
/-- an order of a kind, with whatever crossings -/
def VL (k : Kd) (o : List Int) : Prop :=
  match k.nm with
  | .plain => o.Perm (irange 0 k.n)
  | .mirror => (o.map absI).Perm (irange 1 k.n)
  | .ring => (o.map (· % (k.n : Int))).Perm (irange 0 k.n) ∧ o.sum = (irange 0 k.n).sum
theorem VL.len {k : Kd} {o : List Int} (v : VL k o) : o.length = k.n := by
  unfold VL at v
  split at v
  · simpa [irange_len] using v.length_eq
  · simpa [irange_len] using v.length_eq
  · simpa [irange_len] using v.1.length_eq

/-! ### swaps of neighbours -/
theorem swapAt_len (o : List Int) (i : Nat) : (swapAt o i).length = o.length := by simp [swapAt]
theorem gi_swapAt {o : List Int} {i : Nat} (h : i + 1 < o.length) (j : Nat) : gi (swapAt o i) j = if j = i then gi o (i + 1) else if j = i + 1 then gi o i else gi o j := by
  unfold swapAt
  rw [gi_set, gi_set]
  simp only [List.length_set]
  by_cases h1 : j = i
  · subst h1
    rw [if_neg (by omega), if_pos (by omega), if_pos rfl]
  · by_cases h2 : j = i + 1
    · subst h2
      rw [if_pos (by omega), if_neg h1, if_pos rfl]
    · rw [if_neg (by omega), if_neg (by omega), if_neg h1, if_neg h2]
theorem split2 : ∀ {o : List Int} {i : Nat}, i + 1 < o.length → ∃ a b, o = a ++ gi o i :: gi o (i + 1) :: b ∧ a.length = i ∧ swapAt o i = a ++ gi o (i + 1) :: gi o i :: b
  | x :: y :: l, 0, _ => ⟨[], l, rfl, rfl, rfl⟩
  | [_], 0, h => by simp at h
  | [], _, h => by simp at h
  | x :: l, i + 1, h => by
    obtain ⟨a, b, e1, e2, e3⟩ := split2 (o := l) (i := i) (by simpa using h)
    refine ⟨x :: a, b, congrArg (x :: ·) e1, by simp [e2], ?_⟩
    exact congrArg (x :: ·) e3
theorem perm_swap2 (a b : List Int) (x y : Int) : (a ++ x :: y :: b).Perm (a ++ y :: x :: b) := (List.Perm.swap y x b).append_left a
theorem swapAt_perm {o : List Int} {i : Nat} (h : i + 1 < o.length) : (swapAt o i).Perm o := by
  obtain ⟨a, b, e1, _, e3⟩ := split2 h
  rw [e3]
  exact (perm_swap2 _ _ _ _).trans (by rw [← e1])
theorem sum_perm : ∀ {a b : List Int}, a.Perm b → a.sum = b.sum := by
  intro a b h
  induction h with
  | nil => rfl
  | cons x _ ih => simp only [List.sum_cons, ih]
  | swap x y l => simp only [List.sum_cons]; omega
  | trans _ _ h1 h2 => exact h1.trans h2
theorem crs_swap (k : Kd) (x y : Int) (b : List Int) : ∀ a : List Int, crs k (a ++ x :: y :: b) + btw k y x = crs k (a ++ y :: x :: b) + btw k x y
  | [] => by simp only [List.nil_append, crs, List.map_cons, List.sum_cons]; omega
  | z :: a => by
    have := crs_swap k x y b a
    have e : ((a ++ x :: y :: b).map (btw k z)).sum = ((a ++ y :: x :: b).map (btw k z)).sum := ((perm_swap2 a b x y).map _).sum_nat
    simp only [List.cons_append, crs, e]; omega
theorem crs_swapAt (k : Kd) {o : List Int} {i : Nat} (h : i + 1 < o.length) : crs k o + btw k (gi o (i + 1)) (gi o i) = crs k (swapAt o i) + btw k (gi o i) (gi o (i + 1)) := by
  obtain ⟨a, b, e1, _, e3⟩ := split2 h
  rw [e3]
  have := crs_swap k (gi o i) (gi o (i + 1)) b a
  rw [← e1] at this
  exact this
theorem crs_snoc (k : Kd) (z : Int) : ∀ l : List Int, crs k (l ++ [z]) = crs k l + (l.map fun m => btw k m z).sum + neg1 k z
  | [] => by simp [crs]
  | x :: l => by
    have := crs_snoc k z l
    simp only [List.cons_append, crs, List.map_append, List.map_cons, List.map_nil, List.sum_append_nat, List.sum_cons, List.sum_nil, this]; omega
theorem sum_congr {l : List Int} {f g : Int → Nat} (h : ∀ x ∈ l, f x = g x) : (l.map f).sum = (l.map g).sum := by rw [List.map_congr_left h]
end C47
namespace C47
/-! ### plain -/
def sw (g x : Int) : Int := if x = g then g + 1 else if x = g + 1 then g else x
def sysPlain (n : Nat) : Sys where
  m := n - 1
  V := VL ⟨.plain, n⟩
  st := irange 0 n
  step := stepL ⟨.plain, n⟩
  fn o x := if 0 ≤ x ∧ x < n then gi o x.toNat else x
  len := crs ⟨.plain, n⟩
  s g := sw g
  lo g := g
  hi g := g + 1
  D _ := True
  Sym t := ∀ x, t x = x
theorem sorted_eq {o o' : List Int} (p : o.Perm o') (h : ∀ i, i + 1 < o.length → gi o i ≤ gi o (i + 1)) (h' : o'.Pairwise (· < ·)) : o = o' := by
  refine List.Perm.eq_of_pairwise (le := fun a b => a ≤ b) (fun a b _ _ x y => Int.le_antisymm x y) ?_ (h'.imp fun {a b} z => Int.le_of_lt z) p
  rw [List.pairwise_iff_getElem]
  have : ∀ (d i : Nat), i + d < o.length → gi o i ≤ gi o (i + d) := by
    intro d
    induction d with
    | zero => intro i _; exact Int.le_refl _
    | succ d ih => intro i hi; exact Int.le_trans (ih i (by omega)) (h (i + d) hi)
  intro i j hi hj hij
  have := this (j - i) i (by omega)
  rw [show i + (j - i) = j by omega, gi_lt hi, gi_lt hj] at this
  exact this
theorem crs_start (k : Kd) : crs k k.start = 0 := by
  have key : ∀ (n : Nat) (a : Int), 0 ≤ a → (k.nm = .mirror → 0 < a) → (∀ x, x ∈ irange a n → ∀ y, y ∈ irange a n → (y - x) < k.n) → crs k ((List.range n).map fun (i : Nat) => a + (i : Int)) = 0 := by
    intro n
    induction n with
    | zero => intro a _ _ _; rfl
    | succ n ih =>
      intro a h0 h1 h2
      rw [List.range_succ_eq_map]
      simp only [List.map_cons, List.map_map]
      have e : ((fun (i : Nat) => a + (i : Int)) ∘ Nat.succ) = fun (i : Nat) => (a + 1) + (i : Int) := by
        funext i; simp only [Function.comp, Nat.succ_eq_add_one]; omega
      rw [e]
      simp only [crs]
      rw [ih (a + 1) (by omega) (fun z => by have := h1 z; omega) (fun x hx y hy => h2 x (by rw [mem_irange] at *; omega) y (by rw [mem_irange] at *; omega))]
      have e2 : (((List.range n).map fun (i : Nat) => (a + 1) + (i : Int)).map (btw k (a + ((0 : Nat) : Int)))).sum = 0 := by
        rw [show ((List.range n).map fun (i : Nat) => (a + 1) + (i : Int)) = irange (a + 1) n from rfl]
        have : ∀ y ∈ irange (a + 1) n, btw k (a + ((0 : Nat) : Int)) y = 0 := by
          intro y hy
          have hy' := mem_irange.mp hy
          have hb := h2 a (by rw [mem_irange]; omega) y (by rw [mem_irange]; omega)
          unfold btw
          split
          · rw [Int.ediv_eq_zero_of_lt (by omega) (by omega)]; rfl
          · rename_i hm
            have := h1 hm
            rw [if_neg (by omega), if_neg (by omega)]
          · rw [if_neg (by omega)]
        rw [List.map_congr_left this]
        generalize irange (a + 1) n = l
        induction l with
        | nil => rfl
        | cons _ _ ih => simpa using ih
      rw [e2]
      unfold neg1
      rw [if_neg (by omega)]
  unfold Kd.start irange
  refine key k.n k.first ?_ ?_ ?_
  · unfold Kd.first; split <;> decide
  · intro h; unfold Kd.first; rw [if_pos h]; decide
  · intro x hx y hy; rw [mem_irange] at *; omega
theorem okPlain {n : Nat} (h : 1 ≤ n) : (sysPlain n).Ok where
  vst := List.Perm.refl _
  fst x := by
    show (if 0 ≤ x ∧ x < n then gi (irange 0 n) x.toNat else x) = x
    split
    · rw [gi_irange (by omega)]; omega
    · rfl
  lst := crs_start ⟨.plain, n⟩
  vstep := fun {o g} v hg => by
    have hl : o.length = n := VL.len (k := ⟨.plain, n⟩) v
    have hg : g < n - 1 := hg
    exact (swapAt_perm (by omega)).trans (show o.Perm (irange 0 n) from v)
  fstep := fun {o g} v hg x => by
    have hl : o.length = n := VL.len (k := ⟨.plain, n⟩) v
    have hg : g < n - 1 := hg
    show (if 0 ≤ x ∧ x < n then gi (swapAt o g) x.toNat else x) = if 0 ≤ sw g x ∧ sw g x < n then gi o (sw g x).toNat else sw g x
    unfold sw
    by_cases h1 : x = g
    · subst h1
      rw [if_pos rfl, if_pos (by omega), if_pos (by omega), gi_swapAt (by omega), if_pos (by omega)]
      rfl
    · rw [if_neg h1]
      by_cases h2 : x = g + 1
      · subst h2
        rw [if_pos rfl, if_pos (by omega), if_pos (by omega), gi_swapAt (by omega), if_neg (by omega), if_pos (by omega)]
        rfl
      · rw [if_neg h2]
        split
        · rw [gi_swapAt (by omega), if_neg (by omega), if_neg (by omega)]
        · rfl
  finj := fun {o o'} v v' e => by
    have hl : o.length = n := VL.len (k := ⟨.plain, n⟩) v
    have hl' : o'.length = n := VL.len (k := ⟨.plain, n⟩) v'
    refine gi_ext (hl.trans hl'.symm) fun i hi => ?_
    have := e i
    have this : (if 0 ≤ (i : Int) ∧ (i : Int) < n then gi o (i : Int).toNat else (i : Int)) = if 0 ≤ (i : Int) ∧ (i : Int) < n then gi o' (i : Int).toNat else (i : Int) := this
    rwa [if_pos (by omega), if_pos (by omega)] at this
  inv := fun {g} _ x => by
    show sw g (sw g x) = x
    unfold sw; split <;> split <;> (try split) <;> omega
  dom := fun _ _ => trivial
  comm := fun {g t} _ ht x => by rw [ht, ht]
  one := fun _ => rfl
  sinv := fun {t} ht => ⟨fun x => x, fun _ => rfl, ht, ht⟩
  smul := fun {t u} ht hu x => by show t (u x) = x; rw [ht, hu]
  dlo := fun _ => trivial
  dhi := fun _ => trivial
  lohi := fun {g} _ => by show (g : Int) < g + 1; omega
  slo := fun {g} _ => by show sw g g = g + 1; unfold sw; rw [if_pos rfl]
  moved := fun {g x} _ hx => by
    have hx : sw g x ≠ x := hx
    refine ⟨fun x => x, fun _ => rfl, ?_⟩
    show x = g ∨ x = (g : Int) + 1
    unfold sw at hx
    split at hx
    · left; assumption
    · split at hx
      · right; assumption
      · exact absurd rfl hx
  mono := fun {g a b} _ _ _ hab hs => by
    have hs : sw g b < sw g a := hs
    refine ⟨fun x => x, fun _ => rfl, .inl ?_⟩
    show a = g ∧ b = (g : Int) + 1
    unfold sw at hs; split at hs <;> split at hs <;> (try split at hs) <;> (try split at hs) <;> omega
  fall := fun {o} v hf => by
    have hl : o.length = n := VL.len (k := ⟨.plain, n⟩) v
    refine sorted_eq v (fun i hi => ?_) (irange_lt _ _)
    have hh := hf i (by show i < n - 1; omega)
    have hh : ¬ ((if 0 ≤ (i : Int) + 1 ∧ (i : Int) + 1 < n then gi o ((i : Int) + 1).toNat else _) < (if 0 ≤ (i : Int) ∧ (i : Int) < n then gi o (i : Int).toNat else _)) := hh
    rw [if_pos (by omega), if_pos (by omega)] at hh
    have e1 : ((i : Int) + 1).toNat = i + 1 := by omega
    have e2 : (i : Int).toNat = i := by omega
    rw [e1, e2] at hh
    omega
  up := fun {o g} v hg hc => by
    have hl : o.length = n := VL.len (k := ⟨.plain, n⟩) v
    have hg : g < n - 1 := hg
    have hc : (if 0 ≤ (g : Int) ∧ (g : Int) < n then gi o (g : Int).toNat else _) < (if 0 ≤ (g : Int) + 1 ∧ (g : Int) + 1 < n then gi o ((g : Int) + 1).toNat else _) := hc
    rw [if_pos (by omega), if_pos (by omega)] at hc
    have e1 : ((g : Int) + 1).toNat = g + 1 := by omega
    have e2 : (g : Int).toNat = g := by omega
    rw [e1, e2] at hc
    have := crs_swapAt ⟨.plain, n⟩ (o := o) (i := g) (by omega)
    simp only [btw] at this
    rw [if_pos (by omega), if_neg (by omega)] at this
    exact this.symm
  dn := fun {o g} v hg hc => by
    have hl : o.length = n := VL.len (k := ⟨.plain, n⟩) v
    have hg : g < n - 1 := hg
    have hc : (if 0 ≤ (g : Int) + 1 ∧ (g : Int) + 1 < n then gi o ((g : Int) + 1).toNat else _) < (if 0 ≤ (g : Int) ∧ (g : Int) < n then gi o (g : Int).toNat else _) := hc
    rw [if_pos (by omega), if_pos (by omega)] at hc
    have e1 : ((g : Int) + 1).toNat = g + 1 := by omega
    have e2 : (g : Int).toNat = g := by omega
    rw [e1, e2] at hc
    have := crs_swapAt ⟨.plain, n⟩ (o := o) (i := g) (by omega)
    simp only [btw] at this
    rw [if_neg (by omega), if_pos (by omega)] at this
    exact this.symm
end C47
namespace C47
/-! ### ring -/
def rs (n g : Nat) (x : Int) : Int := if x % (n : Int) = g then x + 1 else if (x - 1) % (n : Int) = g then x - 1 else x
def rfn (n : Nat) (o : List Int) (x : Int) : Int := gi o (x % (n : Int)).toNat + (x - x % (n : Int))
def sysRing (n : Nat) : Sys where
  m := n
  V := VL ⟨.ring, n⟩
  st := irange 0 n
  step := stepL ⟨.ring, n⟩
  fn := rfn n
  len := crs ⟨.ring, n⟩
  s g := rs n g
  lo g := g
  hi g := g + 1
  D _ := True
  Sym t := ∃ q : Int, ∀ x, t x = x + (n : Int) * q
theorem md {n : Nat} {q r : Int} (h0 : 0 ≤ r) (h1 : r < n) : ((n : Int) * q + r) % (n : Int) = r := by
  rw [Int.add_comm, Int.add_mul_emod_self_left]; exact Int.emod_eq_of_lt h0 h1
theorem dvq {n : Nat} {q r : Int} (h0 : 0 ≤ r) (h1 : r < n) : ((n : Int) * q + r) / (n : Int) = q := by
  rw [Int.add_comm, Int.add_mul_ediv_left _ _ (by omega), Int.ediv_eq_zero_of_lt h0 h1, Int.zero_add]
theorem decomp {n : Nat} (h : 1 ≤ n) (x : Int) : ∃ q r : Int, x = (n : Int) * q + r ∧ 0 ≤ r ∧ r < n :=
  ⟨x / n, x % n, (Int.mul_ediv_add_emod x n).symm, Int.emod_nonneg _ (by omega), Int.emod_lt_of_pos _ (by omega)⟩
theorem mul1 (n : Nat) (q : Int) : (n : Int) * (q + 1) = (n : Int) * q + n := by rw [Int.mul_add, Int.mul_one]
theorem mulm1 (n : Nat) (q : Int) : (n : Int) * (q - 1) = (n : Int) * q - n := by rw [Int.mul_sub, Int.mul_one]
theorem rfn_eq {n : Nat} {o : List Int} {q r : Int} (h0 : 0 ≤ r) (h1 : r < n) : rfn n o ((n : Int) * q + r) = gi o r.toNat + (n : Int) * q := by
  unfold rfn; rw [md h0 h1]; omega
theorem rs_eq {n g : Nat} {q r : Int} (hn : 2 ≤ n) (hg : g < n) (h0 : 0 ≤ r) (h1 : r < n) :
    rs n g ((n : Int) * q + r) = if r = g then (n : Int) * q + r + 1 else if r = g + 1 ∨ (r = 0 ∧ g + 1 = n) then (n : Int) * q + r - 1 else (n : Int) * q + r := by
  unfold rs
  rw [md h0 h1]
  by_cases c : r = g
  · rw [if_pos c, if_pos c]
  · rw [if_neg c, if_neg c]
    by_cases z : r = 0
    · subst z
      have e : (n : Int) * q + 0 - 1 = (n : Int) * (q - 1) + ((n : Int) - 1) := by rw [mulm1]; omega
      rw [e, md (by omega) (by omega)]
      by_cases w : g + 1 = n
      · rw [if_pos (by omega), if_pos (by omega)]
      · rw [if_neg (by omega), if_neg (by omega)]
    · have e : (n : Int) * q + r - 1 = (n : Int) * q + (r - 1) := by omega
      rw [e, md (by omega) (by omega)]
      by_cases w : r = g + 1
      · rw [if_pos (by omega), if_pos (by omega)]
      · rw [if_neg (by omega), if_neg (by omega)]
theorem ends2 {o : List Int} (h : 2 ≤ o.length) : ∃ mid, o = gi o 0 :: (mid ++ [gi o (o.length - 1)]) ∧ ∀ u v : Int, (o.set 0 u).set (o.length - 1) v = u :: (mid ++ [v]) := by
  match o, h with
  | x :: l, h =>
    obtain ⟨mid, z, e⟩ : ∃ mid z, l = mid ++ [z] := by
      have hne : l ≠ [] := fun q => by subst q; simp at h
      exact ⟨l.dropLast, l.getLast hne, (List.dropLast_concat_getLast hne).symm⟩
    subst e
    refine ⟨mid, ?_, fun u v => ?_⟩
    · simp [gi]
    · simp
theorem perm_ends (x z : Int) (mid : List Int) : (x :: (mid ++ [z])).Perm (z :: (mid ++ [x])) := by
  have h1 : (x :: (mid ++ [z])).Perm (z :: x :: mid) := by
    have := List.perm_append_comm (l₁ := x :: mid) (l₂ := [z])
    simpa using this
  have h2 : (x :: mid).Perm (mid ++ [x]) := by
    have := List.perm_append_comm (l₁ := [x]) (l₂ := mid)
    simpa using this
  exact h1.trans (h2.cons z)
theorem stepR_last {n g : Nat} {o : List Int} (h : g + 1 = n) : stepL ⟨.ring, n⟩ o g = (o.set 0 (gi o g - n)).set g (gi o 0 + n) := by
  show (if g + 1 = n then _ else _) = _
  rw [if_pos h]
theorem stepR_in {n g : Nat} {o : List Int} (h : ¬ g + 1 = n) : stepL ⟨.ring, n⟩ o g = swapAt o g := by
  show (if g + 1 = n then _ else _) = _
  rw [if_neg h]
theorem VR {n : Nat} {o : List Int} (v : VL ⟨.ring, n⟩ o) : (o.map (· % (n : Int))).Perm (irange 0 n) ∧ o.sum = (irange 0 n).sum := v
theorem vdist {n : Nat} {o : List Int} (v : VL ⟨.ring, n⟩ o) {i j : Nat} (hi : i < n) (hj : j < n) (hij : i ≠ j) : gi o i % (n : Int) ≠ gi o j % (n : Int) := by
  have hl : o.length = n := VL.len v
  have nd : (o.map (· % (n : Int))).Nodup := (VR v).1.nodup_iff.mpr ((irange_lt 0 n).imp fun {a b} z => Int.ne_of_lt z)
  intro e
  have e' : (o.map (· % (n : Int)))[i]'(by simpa [hl] using hi) = (o.map (· % (n : Int)))[j]'(by simpa [hl] using hj) := by
    rw [List.getElem_map, List.getElem_map, ← gi_lt, ← gi_lt]; exact e
  exact hij ((List.getElem_inj nd).mp e')
theorem ndv {n : Nat} (hn : 1 ≤ n) {x y : Int} (h : x % (n : Int) ≠ y % (n : Int)) : (x - y) / (n : Int) = -((y - x) / (n : Int)) - 1 := by
  obtain ⟨q, r, e, h0, h1⟩ := decomp hn (y - x)
  have hr : r ≠ 0 := by
    intro z
    subst z
    refine h ?_
    have e2 : y = x + (n : Int) * q := by omega
    rw [e2, Int.add_mul_emod_self_left]
  have e3 : x - y = (n : Int) * (-q - 1) + ((n : Int) - r) := by
    rw [mulm1, Int.mul_neg]; omega
  rw [e3, dvq (by omega) (by omega), e, dvq h0 h1]
theorem dvn {n : Nat} (hn : 1 ≤ n) (x : Int) : (x + n) / (n : Int) = x / (n : Int) + 1 := by
  have := Int.add_mul_ediv_left x 1 (show (n : Int) ≠ 0 by omega)
  rwa [Int.mul_one] at this
theorem dvpos {n : Nat} (hn : 1 ≤ n) {x : Int} (h : 0 ≤ x) : 0 ≤ x / (n : Int) := Int.ediv_nonneg h (by omega)
/-- neighbours that stand rightly -/
theorem btwR {n : Nat} (hn : 1 ≤ n) {x y : Int} (h : x % (n : Int) ≠ y % (n : Int)) (hxy : x < y) : btw ⟨.ring, n⟩ y x = btw ⟨.ring, n⟩ x y + 1 := by
  show ((x - y) / (n : Int)).natAbs = ((y - x) / (n : Int)).natAbs + 1
  rw [ndv hn h]
  have := dvpos hn (x := y - x) (by omega)
  omega
theorem btwR1 {n : Nat} (hn : 1 ≤ n) {x m : Int} (h : x % (n : Int) ≠ m % (n : Int)) : btw ⟨.ring, n⟩ m (x + n) = btw ⟨.ring, n⟩ x m := by
  show ((x + n - m) / (n : Int)).natAbs = ((m - x) / (n : Int)).natAbs
  rw [show x + n - m = (x - m) + n by omega, dvn hn, ndv hn h]
  omega
theorem btwR2 {n : Nat} (hn : 1 ≤ n) {z m : Int} (h : z % (n : Int) ≠ m % (n : Int)) : btw ⟨.ring, n⟩ (z - n) m = btw ⟨.ring, n⟩ m z := by
  show ((m - (z - n)) / (n : Int)).natAbs = ((z - m) / (n : Int)).natAbs
  rw [show m - (z - n) = (m - z) + n by omega, dvn hn, ndv hn h]
  omega
theorem btwR3 {n : Nat} (hn : 1 ≤ n) {x z : Int} (h : x % (n : Int) ≠ z % (n : Int)) :
    (z < x + n → btw ⟨.ring, n⟩ (z - n) (x + n) = btw ⟨.ring, n⟩ x z + 1) ∧ (x + n < z → btw ⟨.ring, n⟩ (z - n) (x + n) + 1 = btw ⟨.ring, n⟩ x z) := by
  have e : btw ⟨.ring, n⟩ (z - n) (x + n) = (-((z - x) / (n : Int)) - 1 + 1 + 1).natAbs := by
    show ((x + n - (z - n)) / (n : Int)).natAbs = _
    rw [show x + n - (z - n) = (x - z) + n + n by omega, dvn hn, dvn hn, ndv hn h]
  have e2 : btw ⟨.ring, n⟩ x z = ((z - x) / (n : Int)).natAbs := rfl
  rw [e, e2]
  obtain ⟨q, r, e3, h0, h1⟩ := decomp hn (z - x)
  have hq : (z - x) / (n : Int) = q := by rw [e3, dvq h0 h1]
  rw [hq]
  constructor
  · intro hz
    have : q ≤ 0 := by
      refine Int.not_lt.mp fun w => ?_
      have := Int.mul_le_mul_of_nonneg_left (show (1 : Int) ≤ q by omega) (show (0 : Int) ≤ n by omega)
      omega
    omega
  · intro hz
    have : 1 ≤ q := by
      refine Int.not_lt.mp fun w => ?_
      have := Int.mul_le_mul_of_nonneg_left (show q ≤ (0 : Int) by omega) (show (0 : Int) ≤ n by omega)
      rw [Int.mul_zero] at this
      omega
    omega
theorem crs_last {n : Nat} (hn : 2 ≤ n) {o : List Int} (v : VL ⟨.ring, n⟩ o) {g : Nat} (hg : g + 1 = n) :
    (gi o g < gi o 0 + n → crs ⟨.ring, n⟩ (stepL ⟨.ring, n⟩ o g) = crs ⟨.ring, n⟩ o + 1) ∧ (gi o 0 + n < gi o g → crs ⟨.ring, n⟩ (stepL ⟨.ring, n⟩ o g) + 1 = crs ⟨.ring, n⟩ o) := by
  have hl : o.length = n := VL.len v
  have hg2 : o.length - 1 = g := by omega
  obtain ⟨mid, e1, e2⟩ := ends2 (o := o) (by omega)
  rw [hg2] at e1 e2
  rw [stepR_last hg, e2]
  -- the residues of the middle are others
  have hm : ∀ m ∈ mid, gi o 0 % (n : Int) ≠ m % (n : Int) ∧ gi o g % (n : Int) ≠ m % (n : Int) := by
    intro m hm
    have hmid : mid.length + 2 = n := by
      have := congrArg List.length e1
      simp at this; omega
    obtain ⟨i, hi, e⟩ := mem_gi hm
    have hgi : gi o (i + 1) = m := by
      rw [e1]
      show gi (mid ++ [gi o g]) i = m
      unfold gi at e ⊢
      rw [List.getElem?_append_left hi]; exact e
    rw [← hgi]
    exact ⟨vdist v (by omega) (by omega) (by omega), vdist v (by omega) (by omega) (by omega)⟩
  have hxz : gi o 0 % (n : Int) ≠ gi o g % (n : Int) := vdist v (by omega) (by omega) (by omega)
  have k1 : (mid.map (btw ⟨.ring, n⟩ (gi o 0))).sum = (mid.map fun m => btw ⟨.ring, n⟩ m (gi o 0 + n)).sum := sum_congr fun m hm' => (btwR1 (by omega) (hm m hm').1).symm
  have k2 : (mid.map (btw ⟨.ring, n⟩ (gi o g - n))).sum = (mid.map fun m => btw ⟨.ring, n⟩ m (gi o g)).sum := sum_congr fun m hm' => btwR2 (by omega) (hm m hm').2
  have c1 : crs ⟨.ring, n⟩ o = crs ⟨.ring, n⟩ (gi o 0 :: (mid ++ [gi o g])) := by rw [← e1]
  have n1 : ∀ x, neg1 ⟨.ring, n⟩ x = 0 := fun x => by unfold neg1; rw [if_neg (by rintro ⟨h, _⟩; cases h)]
  rw [c1]
  simp only [crs, crs_snoc, List.map_append, List.map_cons, List.map_nil, List.sum_append_nat, List.sum_cons, List.sum_nil, n1, k1, k2]
  have := btwR3 (n := n) (by omega) hxz
  omega
theorem okRing {n : Nat} (h : 2 ≤ n) : (sysRing n).Ok where
  vst := by
    refine ⟨?_, rfl⟩
    have : (irange 0 n).map (· % (n : Int)) = irange 0 n := by
      conv => rhs; rw [← List.map_id (irange 0 n)]
      refine List.map_congr_left fun x hx => ?_
      have := mem_irange.mp hx
      exact Int.emod_eq_of_lt (by omega) (by omega)
    show List.Perm ((irange 0 n).map (· % (n : Int))) (irange 0 n)
    rw [this]
  fst x := by
    show rfn n (irange 0 n) x = x
    have h0 := Int.emod_nonneg x (show (n : Int) ≠ 0 by omega)
    have h1 := Int.emod_lt_of_pos x (show (0 : Int) < n by omega)
    unfold rfn
    rw [gi_irange (by omega)]; omega
  lst := crs_start ⟨.ring, n⟩
  vstep := fun {o g} v hg => by
    have hl : o.length = n := VL.len (k := ⟨.ring, n⟩) v
    have hg : g < n := hg
    obtain ⟨v1, v2⟩ := VR v
    show VL ⟨.ring, n⟩ (stepL ⟨.ring, n⟩ o g)
    by_cases c : g + 1 = n
    · rw [stepR_last c]
      obtain ⟨mid, e1, e2⟩ := ends2 (o := o) (by omega)
      have hg2 : o.length - 1 = g := by omega
      rw [hg2] at e1 e2
      rw [e2]
      refine ⟨?_, ?_⟩
      · refine List.Perm.trans ?_ v1
        show List.Perm (List.map (fun x => x % (n : Int)) ((gi o g - (n : Int)) :: (mid ++ [gi o 0 + (n : Int)]))) _
        rw [show o.map (· % (n : Int)) = (gi o 0 :: (mid ++ [gi o g])).map (· % (n : Int)) by rw [← e1]]
        simp only [List.map_cons, List.map_append, List.map_nil]
        have a1 : (gi o g - n) % (n : Int) = gi o g % (n : Int) := Int.sub_emod_right _ _
        have a2 : (gi o 0 + n) % (n : Int) = gi o 0 % (n : Int) := Int.add_emod_right _ _
        rw [a1, a2]
        exact perm_ends _ _ _
      · refine Eq.trans ?_ v2
        rw [show o.sum = (gi o 0 :: (mid ++ [gi o g])).sum by rw [← e1]]
        simp only [List.sum_cons, List.sum_append, List.sum_nil]
        omega
    · rw [stepR_in c]
      have p := swapAt_perm (o := o) (i := g) (by omega)
      exact ⟨(p.map _).trans v1, (sum_perm p).trans v2⟩
  fstep := fun {o g} v hg x => by
    have hl : o.length = n := VL.len (k := ⟨.ring, n⟩) v
    have hg : g < n := hg
    show rfn n (stepL ⟨.ring, n⟩ o g) x = rfn n o (rs n g x)
    obtain ⟨q, r, rfl, h0, h1⟩ := decomp (n := n) (by omega) x
    rw [rfn_eq h0 h1, rs_eq h hg h0 h1]
    by_cases c : g + 1 = n
    · rw [stepR_last c, gi_set, gi_set]
      simp only [List.length_set]
      by_cases a : r = g
      · rw [if_pos a, if_pos (by omega)]
        have e : (n : Int) * q + r + 1 = (n : Int) * (q + 1) + 0 := by rw [mul1]; omega
        rw [e, rfn_eq (by omega) (by omega), mul1]
        show _ = gi o 0 + _
        omega
      · rw [if_neg a, if_neg (by omega)]
        by_cases b : r = 0
        · subst b
          rw [if_pos (by omega), if_pos (by omega)]
          have e : (n : Int) * q + 0 - 1 = (n : Int) * (q - 1) + g := by rw [mulm1]; omega
          rw [e, rfn_eq (by omega) (by omega), mulm1]
          show _ = gi o g + _
          omega
        · rw [if_neg (by omega), if_neg (by omega), rfn_eq h0 h1]
    · rw [stepR_in c, gi_swapAt (by omega)]
      by_cases a : r = g
      · rw [if_pos a, if_pos (by omega)]
        have e : (n : Int) * q + r + 1 = (n : Int) * q + ((g + 1 : Nat) : Int) := by omega
        rw [e, rfn_eq (by omega) (by omega)]
        rfl
      · rw [if_neg a, if_neg (by omega)]
        by_cases b : r = g + 1
        · rw [if_pos (by omega), if_pos (by omega)]
          have e : (n : Int) * q + r - 1 = (n : Int) * q + (g : Int) := by omega
          rw [e, rfn_eq (by omega) (by omega)]
          rfl
        · rw [if_neg (by omega), if_neg (by omega), rfn_eq h0 h1]
  finj := fun {o o'} v v' e => by
    have hl : o.length = n := VL.len (k := ⟨.ring, n⟩) v
    have hl' : o'.length = n := VL.len (k := ⟨.ring, n⟩) v'
    refine gi_ext (hl.trans hl'.symm) fun i hi => ?_
    have this : rfn n o i = rfn n o' i := e i
    have e1 : (i : Int) = (n : Int) * 0 + (i : Int) := by omega
    rw [e1, rfn_eq (by omega) (by omega), rfn_eq (by omega) (by omega)] at this
    have e2 : (i : Int).toNat = i := by omega
    rw [e2] at this
    omega
  inv := fun {g} hg x => by
    have hg : g < n := hg
    show rs n g (rs n g x) = x
    obtain ⟨q, r, rfl, h0, h1⟩ := decomp (n := n) (by omega) x
    rw [rs_eq h hg h0 h1]
    by_cases a : r = g
    · rw [if_pos a]
      by_cases c : g + 1 = n
      · have e : (n : Int) * q + r + 1 = (n : Int) * (q + 1) + 0 := by rw [mul1]; omega
        rw [e, rs_eq h hg (by omega) (by omega), if_neg (by omega), if_pos (by omega), mul1]; omega
      · have e : (n : Int) * q + r + 1 = (n : Int) * q + (r + 1) := by omega
        rw [e, rs_eq h hg (by omega) (by omega), if_neg (by omega), if_pos (by omega)]; omega
    · rw [if_neg a]
      by_cases b : r = g + 1 ∨ (r = 0 ∧ g + 1 = n)
      · rw [if_pos b]
        rcases b with b | ⟨b, c⟩
        · have e : (n : Int) * q + r - 1 = (n : Int) * q + (g : Int) := by omega
          rw [e, rs_eq h hg (by omega) (by omega), if_pos rfl]; omega
        · have e : (n : Int) * q + r - 1 = (n : Int) * (q - 1) + (g : Int) := by rw [mulm1]; omega
          rw [e, rs_eq h hg (by omega) (by omega), if_pos rfl, mulm1]; omega
      · rw [if_neg b, rs_eq h hg h0 h1, if_neg a, if_neg b]
  dom := fun _ _ => trivial
  comm := fun {g t} hg ht x => by
    obtain ⟨q, ht⟩ := ht
    show rs n g (t x) = t (rs n g x)
    rw [ht, ht]
    unfold rs
    rw [Int.add_mul_emod_self_left, show x + (n : Int) * q - 1 = (x - 1) + (n : Int) * q by omega, Int.add_mul_emod_self_left]
    split
    · omega
    · split <;> omega
  one := ⟨0, fun x => by show x = x + (n : Int) * 0; omega⟩
  sinv := fun {t} ⟨q, ht⟩ => ⟨fun x => x + (n : Int) * (-q), ⟨-q, fun _ => rfl⟩, fun x => by show t x + (n : Int) * (-q) = x; rw [ht, Int.mul_neg]; omega, fun x => by show t (x + (n : Int) * (-q)) = x; rw [ht, Int.mul_neg]; omega⟩
  smul := fun {t u} ⟨q, ht⟩ ⟨p, hu⟩ => ⟨q + p, fun x => by show t (u x) = _; rw [ht, hu, Int.mul_add]; omega⟩
  dlo := fun _ => trivial
  dhi := fun _ => trivial
  lohi := fun {g} _ => by show (g : Int) < g + 1; omega
  slo := fun {g} hg => by
    have hg : g < n := hg
    show rs n g g = g + 1
    unfold rs
    rw [Int.emod_eq_of_lt (by omega) (by omega), if_pos rfl]
  moved := fun {g x} _ hx => by
    have hx : rs n g x ≠ x := hx
    unfold rs at hx
    by_cases a : x % (n : Int) = g
    · refine ⟨fun y => y + (n : Int) * (x / n), ⟨_, fun _ => rfl⟩, .inl ?_⟩
      show x = (g : Int) + (n : Int) * (x / n)
      have := Int.mul_ediv_add_emod x n
      omega
    · rw [if_neg a] at hx
      by_cases b : (x - 1) % (n : Int) = g
      · refine ⟨fun y => y + (n : Int) * ((x - 1) / n), ⟨_, fun _ => rfl⟩, .inr ?_⟩
        show x = (g : Int) + 1 + (n : Int) * ((x - 1) / n)
        have := Int.mul_ediv_add_emod (x - 1) n
        omega
      · rw [if_neg b] at hx
        exact absurd rfl hx
  mono := fun {g a b} _ _ _ hab hs => by
    have hs : rs n g b < rs n g a := hs
    have lo : b - 1 ≤ rs n g b := by unfold rs; split <;> (try split) <;> omega
    by_cases c : a % (n : Int) = g
    · have e : rs n g a = a + 1 := by unfold rs; rw [if_pos c]
      refine ⟨fun y => y + (n : Int) * (a / n), ⟨_, fun _ => rfl⟩, .inl ?_⟩
      show a = (g : Int) + (n : Int) * (a / n) ∧ b = (g : Int) + 1 + (n : Int) * (a / n)
      have := Int.mul_ediv_add_emod a n
      omega
    · have : rs n g a ≤ a := by unfold rs; rw [if_neg c]; split <;> omega
      omega
  fall := fun {o} v hf => by
    have hl : o.length = n := VL.len (k := ⟨.ring, n⟩) v
    obtain ⟨v1, v2⟩ := VR v
    have hin : ∀ i, i + 1 < n → gi o i < gi o (i + 1) := by
      intro i hi
      have hh : ¬ rfn n o ((i : Int) + 1) < rfn n o (i : Int) := hf i (by show i < n; omega)
      have e1 : (i : Int) + 1 = (n : Int) * 0 + ((i + 1 : Nat) : Int) := by omega
      have e2 : (i : Int) = (n : Int) * 0 + (i : Int) := by omega
      rw [e1, rfn_eq (by omega) (by omega)] at hh
      rw [e2, rfn_eq (by omega) (by omega)] at hh
      have e3 : ((i + 1 : Nat) : Int).toNat = i + 1 := by omega
      have e4 : (i : Int).toNat = i := by omega
      rw [e3, e4] at hh
      have hd := vdist v (i := i) (j := i + 1) (by omega) (by omega) (by omega)
      rcases Int.lt_trichotomy (gi o i) (gi o (i + 1)) with z | z | z
      · exact z
      · rw [z] at hd; exact absurd rfl hd
      · omega
    have hlast : gi o (n - 1) < gi o 0 + n := by
      have hh : ¬ rfn n o (((n - 1 : Nat) : Int) + 1) < rfn n o ((n - 1 : Nat) : Int) := hf (n - 1) (by show n - 1 < n; omega)
      have e1 : ((n - 1 : Nat) : Int) + 1 = (n : Int) * 1 + ((0 : Nat) : Int) := by omega
      have e2 : ((n - 1 : Nat) : Int) = (n : Int) * 0 + ((n - 1 : Nat) : Int) := by omega
      rw [e1, rfn_eq (by omega) (by omega)] at hh
      rw [e2, rfn_eq (by omega) (by omega)] at hh
      have e3 : ((0 : Nat) : Int).toNat = 0 := rfl
      have e4 : ((n - 1 : Nat) : Int).toNat = n - 1 := by omega
      rw [e3, e4] at hh
      have hd := vdist v (i := 0) (j := n - 1) (by omega) (by omega) (by omega)
      rcases Int.lt_trichotomy (gi o (n - 1)) (gi o 0 + n) with z | z | z
      · exact z
      · rw [z, Int.add_emod_right] at hd; exact absurd rfl hd
      · omega
    have up : ∀ d i, i + d < n → gi o i + d ≤ gi o (i + d) := by
      intro d
      induction d with
      | zero => intro i _; show gi o i + 0 ≤ gi o i; omega
      | succ d ih =>
        intro i hi
        have := ih i (by omega)
        have := hin (i + d) (by omega)
        rw [show i + (d + 1) = i + d + 1 by omega]
        omega
    have eq : ∀ i, i < n → gi o i = gi o 0 + i := by
      intro i hi
      have a1 := up i 0 (by omega)
      have a2 := up (n - 1 - i) i (by omega)
      rw [show i + (n - 1 - i) = n - 1 by omega] at a2
      rw [show 0 + i = i by omega] at a1
      omega
    have eo : o = irange (gi o 0) n := gi_ext (by rw [hl, irange_len]) fun i hi => by rw [gi_irange (by omega)]; exact eq i (by omega)
    have sum : ∀ (m : Nat) (a : Int), (irange a m).sum = m * a + (irange 0 m).sum := by
      intro m
      induction m with
      | zero => intro a; simp [irange]
      | succ m ih =>
        intro a
        have e : ∀ b : Int, irange b (m + 1) = irange b m ++ [b + m] := fun b => by unfold irange; rw [List.range_succ, List.map_append]; rfl
        rw [e, e, List.sum_append, List.sum_append, ih]
        simp only [List.sum_cons, List.sum_nil, Int.natCast_add, Int.add_mul]
        omega
    have s1 := sum n (gi o 0)
    rw [← eo, v2] at s1
    have z : (n : Int) * gi o 0 = 0 := by omega
    rcases Int.mul_eq_zero.mp z with z | z
    · omega
    · rw [eo, z]; rfl
  up := fun {o g} v hg hc => by
    have hl : o.length = n := VL.len (k := ⟨.ring, n⟩) v
    have hg : g < n := hg
    have hc : rfn n o (g : Int) < rfn n o ((g : Int) + 1) := hc
    show crs ⟨.ring, n⟩ (stepL ⟨.ring, n⟩ o g) = crs ⟨.ring, n⟩ o + 1
    have e2 : (g : Int) = (n : Int) * 0 + (g : Int) := by omega
    have e4 : (g : Int).toNat = g := by omega
    by_cases c : g + 1 = n
    · have e1 : (g : Int) + 1 = (n : Int) * 1 + ((0 : Nat) : Int) := by omega
      rw [e1, rfn_eq (by omega) (by omega), e2, rfn_eq (by omega) (by omega), e4] at hc
      have e3 : ((0 : Nat) : Int).toNat = 0 := rfl
      rw [e3] at hc
      exact (crs_last h v c).1 (by omega)
    · have e1 : (g : Int) + 1 = (n : Int) * 0 + ((g + 1 : Nat) : Int) := by omega
      rw [e1, rfn_eq (by omega) (by omega), e2, rfn_eq (by omega) (by omega), e4] at hc
      have e3 : ((g + 1 : Nat) : Int).toNat = g + 1 := by omega
      rw [e3] at hc
      rw [stepR_in c]
      have a1 := crs_swapAt ⟨.ring, n⟩ (o := o) (i := g) (by omega)
      have a2 := btwR (n := n) (x := gi o g) (y := gi o (g + 1)) (by omega) (vdist v (by omega) (by omega) (by omega)) (by omega)
      omega
  dn := fun {o g} v hg hc => by
    have hl : o.length = n := VL.len (k := ⟨.ring, n⟩) v
    have hg : g < n := hg
    have hc : rfn n o ((g : Int) + 1) < rfn n o (g : Int) := hc
    show crs ⟨.ring, n⟩ (stepL ⟨.ring, n⟩ o g) + 1 = crs ⟨.ring, n⟩ o
    have e2 : (g : Int) = (n : Int) * 0 + (g : Int) := by omega
    have e4 : (g : Int).toNat = g := by omega
    by_cases c : g + 1 = n
    · have e1 : (g : Int) + 1 = (n : Int) * 1 + ((0 : Nat) : Int) := by omega
      rw [e1, rfn_eq (by omega) (by omega), e2, rfn_eq (by omega) (by omega), e4] at hc
      have e3 : ((0 : Nat) : Int).toNat = 0 := rfl
      rw [e3] at hc
      exact (crs_last h v c).2 (by omega)
    · have e1 : (g : Int) + 1 = (n : Int) * 0 + ((g + 1 : Nat) : Int) := by omega
      rw [e1, rfn_eq (by omega) (by omega), e2, rfn_eq (by omega) (by omega), e4] at hc
      have e3 : ((g + 1 : Nat) : Int).toNat = g + 1 := by omega
      rw [e3] at hc
      rw [stepR_in c]
      have a1 := crs_swapAt ⟨.ring, n⟩ (o := o) (i := g) (by omega)
      have a2 := btwR (n := n) (x := gi o (g + 1)) (y := gi o g) (by omega) (vdist v (by omega) (by omega) (by omega)) (by omega)
      omega
end C47
namespace C47
/-! ### mirror -/
def ms (g : Nat) (x : Int) : Int :=
  if g = 0 then (if x = 1 then -1 else if x = -1 then 1 else x)
  else if x = g then g + 1 else if x = g + 1 then g else if x = -(g : Int) then -(g : Int) - 1 else if x = -(g : Int) - 1 then -(g : Int) else x
def mfn (n : Nat) (o : List Int) (x : Int) : Int := if 0 < x ∧ x ≤ n then gi o (x - 1).toNat else if x < 0 ∧ -(n : Int) ≤ x then -(gi o (-x - 1).toNat) else x
def sysMirror (n : Nat) : Sys where
  m := n
  V := VL ⟨.mirror, n⟩
  st := irange 1 n
  step := stepL ⟨.mirror, n⟩
  fn := mfn n
  len := crs ⟨.mirror, n⟩
  s g := ms g
  lo g := if g = 0 then -1 else g
  hi g := (g : Int) + 1
  D x := x ≠ 0
  Sym t := (∀ x, t x = x) ∨ ∀ x, t x = -x
theorem stepM_0 {n : Nat} {o : List Int} : stepL ⟨.mirror, n⟩ o 0 = o.set 0 (-(gi o 0)) := rfl
theorem stepM_s {n g : Nat} {o : List Int} (h : ¬ g = 0) : stepL ⟨.mirror, n⟩ o g = swapAt o (g - 1) := by
  show (if g = 0 then _ else _) = _
  rw [if_neg h]
theorem VM {n : Nat} {o : List Int} (v : VL ⟨.mirror, n⟩ o) : (o.map absI).Perm (irange 1 n) := v
theorem absI_pos {x : Int} (h : 1 ≤ absI x) : x ≠ 0 := by unfold absI at h; split at h <;> omega
theorem absI_neg (x : Int) : absI (-x) = absI x := by unfold absI; split <;> split <;> omega
theorem VM_pos {n : Nat} {o : List Int} (v : VL ⟨.mirror, n⟩ o) {i : Nat} (hi : i < n) : gi o i ≠ 0 := by
  have hl : o.length = n := VL.len v
  have := (VM v).mem_iff.mp (List.mem_map_of_mem (gi_mem (o := o) (i := i) (by omega)))
  exact absI_pos (mem_irange.mp this).1
theorem VM_dist {n : Nat} {o : List Int} (v : VL ⟨.mirror, n⟩ o) {i j : Nat} (hi : i < n) (hj : j < n) (hij : i ≠ j) : absI (gi o i) ≠ absI (gi o j) := by
  have hl : o.length = n := VL.len v
  have nd : (o.map absI).Nodup := (VM v).nodup_iff.mpr ((irange_lt 1 n).imp fun {a b} z => Int.ne_of_lt z)
  intro e
  have e' : (o.map absI)[i]'(by simpa [hl] using hi) = (o.map absI)[j]'(by simpa [hl] using hj) := by
    rw [List.getElem_map, List.getElem_map, ← gi_lt, ← gi_lt]; exact e
  exact hij ((List.getElem_inj nd).mp e')
theorem mfn_pos {n : Nat} {o : List Int} {i : Nat} (h : i < n) : mfn n o ((i : Int) + 1) = gi o i := by
  unfold mfn
  rw [if_pos (by omega), show ((i : Int) + 1 - 1).toNat = i by omega]
theorem mfn_neg {n : Nat} {o : List Int} {i : Nat} (h : i < n) : mfn n o (-((i : Int) + 1)) = -(gi o i) := by
  unfold mfn
  rw [if_neg (by omega), if_pos (by omega), show (-(-((i : Int) + 1)) - 1).toNat = i by omega]
theorem mfn_out {n : Nat} {o : List Int} {x : Int} (h : ∀ i : Nat, i < n → x ≠ (i : Int) + 1 ∧ x ≠ -((i : Int) + 1)) : mfn n o x = x := by
  unfold mfn
  by_cases a : 0 < x ∧ x ≤ n
  · exact absurd (show x = ((x - 1).toNat : Int) + 1 by omega) (h (x - 1).toNat (by omega)).1
  · rw [if_neg a]
    by_cases b : x < 0 ∧ -(n : Int) ≤ x
    · exact absurd (show x = -(((-x - 1).toNat : Int) + 1) by omega) (h (-x - 1).toNat (by omega)).2
    · rw [if_neg b]
theorem crs_first {n : Nat} (hn : 1 ≤ n) {o : List Int} (v : VL ⟨.mirror, n⟩ o) :
    (0 < gi o 0 → crs ⟨.mirror, n⟩ (stepL ⟨.mirror, n⟩ o 0) = crs ⟨.mirror, n⟩ o + 1) ∧ (gi o 0 < 0 → crs ⟨.mirror, n⟩ (stepL ⟨.mirror, n⟩ o 0) + 1 = crs ⟨.mirror, n⟩ o) := by
  have hl : o.length = n := VL.len v
  have hp := VM_pos v (i := 0) (by omega)
  rw [stepM_0]
  match o, hl with
  | x :: l, hl =>
    have e0 : gi (x :: l) 0 = x := rfl
    rw [e0] at hp ⊢
    show (0 < x → crs ⟨.mirror, n⟩ (-x :: l) = crs ⟨.mirror, n⟩ (x :: l) + 1) ∧ (x < 0 → crs ⟨.mirror, n⟩ (-x :: l) + 1 = crs ⟨.mirror, n⟩ (x :: l))
    have k : (l.map (btw ⟨.mirror, n⟩ (-x))).sum = (l.map (btw ⟨.mirror, n⟩ x)).sum := sum_congr fun m _ => by
      show (if m < -x then 1 else 0) + (if -x + m < 0 then 1 else 0) = (if m < x then 1 else 0) + (if x + m < 0 then 1 else 0)
      have e1 : (m < -x) = (x + m < 0) := propext ⟨fun h => by omega, fun h => by omega⟩
      have e2 : (-x + m < 0) = (m < x) := propext ⟨fun h => by omega, fun h => by omega⟩
      simp only [e1, e2]; omega
    simp only [crs, k, neg1, true_and]
    constructor
    · intro h
      rw [if_pos (by omega), if_neg (by omega)]; omega
    · intro h
      rw [if_neg (by omega), if_pos h]; omega
theorem okMirror {n : Nat} (h : 1 ≤ n) : (sysMirror n).Ok where
  vst := by
    show List.Perm ((irange 1 n).map absI) (irange 1 n)
    have : (irange 1 n).map absI = irange 1 n := by
      conv => rhs; rw [← List.map_id (irange 1 n)]
      refine List.map_congr_left fun x hx => ?_
      have := mem_irange.mp hx
      unfold absI
      rw [if_neg (by omega)]; rfl
    rw [this]
  fst x := by
    show mfn n (irange 1 n) x = x
    unfold mfn
    split
    · rw [gi_irange (by omega)]; omega
    · split
      · rw [gi_irange (by omega)]; omega
      · rfl
  lst := crs_start ⟨.mirror, n⟩
  vstep := fun {o g} v hg => by
    have hl : o.length = n := VL.len (k := ⟨.mirror, n⟩) v
    have hg : g < n := hg
    have v1 := VM v
    show List.Perm ((stepL ⟨.mirror, n⟩ o g).map absI) (irange 1 n)
    by_cases c : g = 0
    · subst c
      rw [stepM_0]
      refine List.Perm.trans (List.Perm.of_eq ?_) v1
      match o, hl with
      | [], hl => simp at hl; omega
      | x :: l, hl =>
        show absI (-x) :: l.map absI = absI x :: l.map absI
        rw [absI_neg]
    · rw [stepM_s c]
      exact ((swapAt_perm (by omega)).map _).trans v1
  fstep := fun {o g} v hg x => by
    have hl : o.length = n := VL.len (k := ⟨.mirror, n⟩) v
    have hg : g < n := hg
    show mfn n (stepL ⟨.mirror, n⟩ o g) x = mfn n o (ms g x)
    by_cases c : g = 0
    · subst c
      rw [stepM_0]
      unfold ms
      rw [if_pos rfl]
      have hs : ∀ i, gi (o.set 0 (-(gi o 0))) i = if i = 0 then -(gi o 0) else gi o i := fun i => by
        rw [gi_set]
        by_cases z : i = 0
        · rw [if_pos ⟨z.symm, by omega⟩, if_pos z]
        · rw [if_neg (fun q => z q.1.symm), if_neg z]
      unfold mfn
      by_cases a : x = 1
      · subst a
        rw [if_pos rfl, if_pos (by omega), if_neg (by omega), if_pos (by omega), hs, if_pos (by omega)]
        rfl
      · rw [if_neg a]
        by_cases b : x = -1
        · subst b
          rw [if_pos rfl, if_neg (by omega), if_pos (by omega), if_pos (by omega), hs, if_pos (by omega)]
          show -(-(gi o 0)) = gi o 0
          omega
        · rw [if_neg b]
          by_cases d : 0 < x ∧ x ≤ n
          · rw [if_pos d, if_pos d, hs, if_neg (by omega)]
          · rw [if_neg d, if_neg d]
            by_cases e : x < 0 ∧ -(n : Int) ≤ x
            · rw [if_pos e, if_pos e, hs, if_neg (by omega)]
            · rw [if_neg e, if_neg e]
    · rw [stepM_s c]
      have hs := gi_swapAt (o := o) (i := g - 1) (by omega)
      rw [show g - 1 + 1 = g by omega] at hs
      unfold ms
      rw [if_neg c]
      unfold mfn
      by_cases a : x = g
      · rw [if_pos a, if_pos (by omega), if_pos (by omega), hs, if_pos (by omega)]
        congr 1; omega
      · rw [if_neg a]
        by_cases b : x = g + 1
        · rw [if_pos b, if_pos (by omega), if_pos (by omega), hs, if_neg (by omega), if_pos (by omega)]
          congr 1; omega
        · rw [if_neg b]
          by_cases a' : x = -(g : Int)
          · rw [if_pos a', if_neg (by omega), if_pos (by omega), if_neg (by omega), if_pos (by omega), hs, if_pos (by omega)]
            congr 2; omega
          · rw [if_neg a']
            by_cases b' : x = -(g : Int) - 1
            · rw [if_pos b', if_neg (by omega), if_pos (by omega), if_neg (by omega), if_pos (by omega), hs, if_neg (by omega), if_pos (by omega)]
              congr 2; omega
            · rw [if_neg b']
              by_cases d : 0 < x ∧ x ≤ n
              · rw [if_pos d, if_pos d, hs, if_neg (by omega), if_neg (by omega)]
              · rw [if_neg d, if_neg d]
                by_cases e : x < 0 ∧ -(n : Int) ≤ x
                · rw [if_pos e, if_pos e, hs, if_neg (by omega), if_neg (by omega)]
                · rw [if_neg e, if_neg e]
  finj := fun {o o'} v v' e => by
    have hl : o.length = n := VL.len (k := ⟨.mirror, n⟩) v
    have hl' : o'.length = n := VL.len (k := ⟨.mirror, n⟩) v'
    refine gi_ext (hl.trans hl'.symm) fun i hi => ?_
    have this : mfn n o ((i : Int) + 1) = mfn n o' ((i : Int) + 1) := e _
    rwa [mfn_pos (by omega), mfn_pos (by omega)] at this
  inv := fun {g} _ x => by
    show ms g (ms g x) = x
    unfold ms
    by_cases c : g = 0
    · simp only [if_pos c]
      repeat' split
      all_goals omega
    · simp only [if_neg c]
      repeat' split
      all_goals omega
  dom := fun {g x} _ hx => by
    have hx : x ≠ 0 := hx
    show ms g x ≠ 0
    unfold ms
    repeat' split
    all_goals omega
  comm := fun {g t} _ ht x => by
    show ms g (t x) = t (ms g x)
    rcases ht with ht | ht
    · rw [ht, ht]
    · rw [ht, ht]
      unfold ms
      by_cases c : g = 0
      · simp only [if_pos c]
        repeat' split
        all_goals omega
      · simp only [if_neg c]
        repeat' split
        all_goals omega
  one := .inl fun _ => rfl
  sinv := fun {t} ht => ⟨t, ht, by rcases ht with ht | ht <;> intro x <;> rw [ht, ht] <;> omega, by rcases ht with ht | ht <;> intro x <;> rw [ht, ht] <;> omega⟩
  smul := fun {t u} ht hu => by
    rcases ht with ht | ht <;> rcases hu with hu | hu
    · exact .inl fun x => by show t (u x) = x; rw [ht, hu]
    · exact .inr fun x => by show t (u x) = -x; rw [ht, hu]
    · exact .inr fun x => by show t (u x) = -x; rw [ht, hu]
    · exact .inl fun x => by show t (u x) = x; rw [ht, hu]; omega
  dlo := fun {g} _ => by show (if g = 0 then (-1 : Int) else g) ≠ 0; split <;> omega
  dhi := fun {g} _ => by show (g : Int) + 1 ≠ 0; omega
  lohi := fun {g} _ => by show (if g = 0 then (-1 : Int) else g) < (g : Int) + 1; split <;> omega
  slo := fun {g} _ => by
    show ms g (if g = 0 then (-1 : Int) else g) = (g : Int) + 1
    unfold ms
    by_cases c : g = 0
    · rw [if_pos c, if_pos c, if_neg (by omega), if_pos rfl]; omega
    · rw [if_neg c, if_neg c, if_pos rfl]
  moved := fun {g x} _ hx => by
    have hx : ms g x ≠ x := hx
    show ∃ t : Int → Int, ((∀ x, t x = x) ∨ ∀ x, t x = -x) ∧ (x = t (if g = 0 then (-1 : Int) else g) ∨ x = t ((g : Int) + 1))
    unfold ms at hx
    by_cases c : g = 0
    · refine ⟨fun y => y, .inl fun _ => rfl, ?_⟩
      simp only [if_pos c] at hx ⊢
      split at hx
      · right; omega
      · split at hx
        · left; omega
        · exact absurd rfl hx
    · simp only [if_neg c] at hx ⊢
      split at hx
      · exact ⟨fun y => y, .inl fun _ => rfl, .inl (by assumption)⟩
      · split at hx
        · exact ⟨fun y => y, .inl fun _ => rfl, .inr (by assumption)⟩
        · split at hx
          · exact ⟨fun y => -y, .inr fun _ => rfl, .inl (by assumption)⟩
          · split at hx
            · exact ⟨fun y => -y, .inr fun _ => rfl, .inr (by show x = -((g : Int) + 1); omega)⟩
            · exact absurd rfl hx
  mono := fun {g a b} _ da db hab hs => by
    have hs : ms g b < ms g a := hs
    have da : a ≠ 0 := da
    have db : b ≠ 0 := db
    show ∃ t : Int → Int, ((∀ x, t x = x) ∨ ∀ x, t x = -x) ∧ ((a = t (if g = 0 then (-1 : Int) else g) ∧ b = t ((g : Int) + 1)) ∨ (a = t ((g : Int) + 1) ∧ b = t (if g = 0 then (-1 : Int) else g)))
    unfold ms at hs
    by_cases c : g = 0
    · refine ⟨fun y => y, .inl fun _ => rfl, .inl ?_⟩
      simp only [if_pos c] at hs ⊢
      repeat' split at hs
      all_goals omega
    · simp only [if_neg c] at hs ⊢
      by_cases a1 : a = g
      · refine ⟨fun y => y, .inl fun _ => rfl, .inl ⟨a1, ?_⟩⟩
        show b = (g : Int) + 1
        rw [if_pos a1] at hs
        repeat' split at hs
        all_goals omega
      · have a2 : a = -(g : Int) - 1 := by
          rw [if_neg a1] at hs
          repeat' split at hs
          all_goals omega
        refine ⟨fun y => -y, .inr fun _ => rfl, .inr ⟨?_, ?_⟩⟩
        · show a = -((g : Int) + 1)
          omega
        · show b = -(g : Int)
          rw [if_neg a1, if_neg (by omega), if_neg (by omega), if_pos a2] at hs
          repeat' split at hs
          all_goals omega
  fall := fun {o} v hf => by
    have hl : o.length = n := VL.len (k := ⟨.mirror, n⟩) v
    have hf : ∀ g, g < n → ¬ mfn n o ((g : Int) + 1) < mfn n o (if g = 0 then (-1 : Int) else g) := hf
    have h0 : 0 < gi o 0 := by
      have := hf 0 (by omega)
      rw [if_pos rfl, mfn_pos (by omega), show (-1 : Int) = -(((0 : Nat) : Int) + 1) by omega, mfn_neg (by omega)] at this
      have := VM_pos v (i := 0) (by omega)
      omega
    have hin : ∀ i, i + 1 < n → gi o i ≤ gi o (i + 1) := by
      intro i hi
      have := hf (i + 1) (by omega)
      rw [if_neg (by omega), mfn_pos (by omega), show ((i + 1 : Nat) : Int) = (i : Int) + 1 by omega, mfn_pos (by omega)] at this
      omega
    have hp : ∀ i, i < n → 0 < gi o i := by
      intro i
      induction i with
      | zero => intro _; exact h0
      | succ i ih => intro hi; have := ih (by omega); have := hin i hi; omega
    have e : o.map absI = o := by
      conv => rhs; rw [← List.map_id o]
      refine List.map_congr_left fun x hx => ?_
      obtain ⟨i, hi, e⟩ := mem_gi hx
      have := hp i (by omega)
      unfold absI
      rw [if_neg (by omega)]; rfl
    have v1 := VM v
    rw [e] at v1
    exact sorted_eq v1 (fun i hi => hin i (by omega)) (irange_lt _ _)
  up := fun {o g} v hg hc => by
    have hl : o.length = n := VL.len (k := ⟨.mirror, n⟩) v
    have hg : g < n := hg
    have hc : mfn n o (if g = 0 then (-1 : Int) else g) < mfn n o ((g : Int) + 1) := hc
    show crs ⟨.mirror, n⟩ (stepL ⟨.mirror, n⟩ o g) = crs ⟨.mirror, n⟩ o + 1
    by_cases c : g = 0
    · subst c
      rw [if_pos rfl, mfn_pos (by omega), show (-1 : Int) = -(((0 : Nat) : Int) + 1) by omega, mfn_neg (by omega)] at hc
      exact (crs_first h v).1 (by omega)
    · obtain ⟨i, rfl⟩ : ∃ i, g = i + 1 := ⟨g - 1, by omega⟩
      rw [if_neg c, mfn_pos (by omega), show ((i + 1 : Nat) : Int) = (i : Int) + 1 by omega, mfn_pos (by omega)] at hc
      rw [stepM_s c, show i + 1 - 1 = i by omega]
      have := crs_swapAt ⟨.mirror, n⟩ (o := o) (i := i) (by omega)
      simp only [btw] at this
      rw [if_pos hc, if_neg (show ¬ gi o (i + 1) < gi o i by omega), Int.add_comm (gi o (i + 1))] at this
      omega
  dn := fun {o g} v hg hc => by
    have hl : o.length = n := VL.len (k := ⟨.mirror, n⟩) v
    have hg : g < n := hg
    have hc : mfn n o ((g : Int) + 1) < mfn n o (if g = 0 then (-1 : Int) else g) := hc
    show crs ⟨.mirror, n⟩ (stepL ⟨.mirror, n⟩ o g) + 1 = crs ⟨.mirror, n⟩ o
    by_cases c : g = 0
    · subst c
      rw [if_pos rfl, mfn_pos (by omega), show (-1 : Int) = -(((0 : Nat) : Int) + 1) by omega, mfn_neg (by omega)] at hc
      exact (crs_first h v).2 (by omega)
    · obtain ⟨i, rfl⟩ : ∃ i, g = i + 1 := ⟨g - 1, by omega⟩
      rw [if_neg c, mfn_pos (by omega), show ((i + 1 : Nat) : Int) = (i : Int) + 1 by omega, mfn_pos (by omega)] at hc
      rw [stepM_s c, show i + 1 - 1 = i by omega]
      have := crs_swapAt ⟨.mirror, n⟩ (o := o) (i := i) (by omega)
      simp only [btw] at this
      rw [if_neg (show ¬ gi o i < gi o (i + 1) by omega), if_pos hc, Int.add_comm (gi o (i + 1))] at this
      omega
end C47
namespace C47
def sysOf (k : Kd) : Sys := match k.nm with | .plain => sysPlain k.n | .mirror => sysMirror k.n | .ring => sysRing k.n
theorem okOf {k : Kd} (h : k.ok) : (sysOf k).Ok := by
  obtain ⟨nm, n⟩ := k
  cases nm
  · exact okPlain h
  · exact okMirror h
  · exact okRing h
theorem sys_m (k : Kd) : (sysOf k).m = k.steps := by obtain ⟨nm, n⟩ := k; cases nm <;> rfl
theorem sys_V (k : Kd) : (sysOf k).V = VL k := by obtain ⟨nm, n⟩ := k; cases nm <;> rfl
theorem sys_st (k : Kd) : (sysOf k).st = k.start := by obtain ⟨nm, n⟩ := k; cases nm <;> rfl
theorem sys_step (k : Kd) : (sysOf k).step = stepL k := by obtain ⟨nm, n⟩ := k; cases nm <;> rfl
theorem sys_len (k : Kd) : (sysOf k).len = crs k := by obtain ⟨nm, n⟩ := k; cases nm <;> rfl
theorem sys_cr {k : Kd} (hk : k.ok) {o : List Int} {g : Nat} (v : VL k o) (hg : g < k.steps) : (sysOf k).cr o g ↔ crossedB k o g = true := by
  have hl := VL.len v
  obtain ⟨nm, n⟩ := k
  simp only at hl
  cases nm
  · have hg : g < n - 1 := hg
    show ((if 0 ≤ (g : Int) + 1 ∧ (g : Int) + 1 < n then gi o ((g : Int) + 1).toNat else _) < (if 0 ≤ (g : Int) ∧ (g : Int) < n then gi o (g : Int).toNat else _)) ↔ decide (gi o (g + 1) < gi o g) = true
    rw [if_pos (by omega), if_pos (by omega), show ((g : Int) + 1).toNat = g + 1 by omega, show (g : Int).toNat = g by omega, decide_eq_true_eq]
  · have hg : g < n := hg
    show mfn n o ((g : Int) + 1) < mfn n o (if g = 0 then (-1 : Int) else g) ↔ (if g = 0 then decide (gi o 0 < 0) else decide (gi o g < gi o (g - 1))) = true
    by_cases c : g = 0
    · subst c
      rw [if_pos rfl, if_pos rfl, mfn_pos (by omega), show (-1 : Int) = -(((0 : Nat) : Int) + 1) by omega, mfn_neg (by omega), decide_eq_true_eq]
      omega
    · obtain ⟨i, rfl⟩ : ∃ i, g = i + 1 := ⟨g - 1, by omega⟩
      rw [if_neg c, if_neg c, mfn_pos (by omega), show ((i + 1 : Nat) : Int) = (i : Int) + 1 by omega, mfn_pos (by omega), decide_eq_true_eq]
      rfl
  · have hg : g < n := hg
    have hn : 2 ≤ n := hk
    show rfn n o ((g : Int) + 1) < rfn n o (g : Int) ↔ (if g + 1 = n then decide (gi o 0 + n < gi o g) else decide (gi o (g + 1) < gi o g)) = true
    have e2 : (g : Int) = (n : Int) * 0 + (g : Int) := by omega
    have e4 : (g : Int).toNat = g := by omega
    by_cases c : g + 1 = n
    · have e1 : (g : Int) + 1 = (n : Int) * 1 + ((0 : Nat) : Int) := by omega
      rw [if_pos c, e1, rfn_eq (by omega) (by omega), e2, rfn_eq (by omega) (by omega), e4, decide_eq_true_eq]
      have e3 : ((0 : Nat) : Int).toNat = 0 := rfl
      rw [e3]
      omega
    · have e1 : (g : Int) + 1 = (n : Int) * 0 + ((g + 1 : Nat) : Int) := by omega
      rw [if_neg c, e1, rfn_eq (by omega) (by omega), e2, rfn_eq (by omega) (by omega), e4, decide_eq_true_eq]
      have e3 : ((g + 1 : Nat) : Int).toNat = g + 1 := by omega
      rw [e3]
      omega

/-! ### what the program reckons -/
def falls (k : Kd) (o : List Int) : List Nat := (List.range k.steps).filter (crossedB k o)
def pick (last : Bool) (g : Nat) (gs : List Nat) : Nat := if last then (g :: gs).getLastD 0 else g
def desc (k : Kd) (last : Bool) : Nat → List Int → List Nat
  | 0, _ => []
  | f + 1, o => match falls k o with
    | [] => []
    | g :: gs => pick last g gs :: desc k last f (stepL k o (pick last g gs))
def rowOf (k : Kd) (last : Bool) (o : List Int) : List Nat := (desc k last (crs k o) o).reverse
def made (k : Kd) (row : List Nat) : List Int := row.foldl (stepL k) k.start
def lesserL (k : Kd) (o : List Int) (g : Nat) : List Int := if crossedB k o g then stepL k o g else o
def upperL (k : Kd) (o : List Int) (g : Nat) : List Int := if crossedB k o g then o else stepL k o g
def below (k : Kd) : Nat → List Int → List Int → Bool
  | 0, u, _ => decide (u = k.start)
  | f + 1, u, w => match falls k w with
    | [] => decide (u = k.start)
    | g :: _ => below k f (lesserL k u g) (stepL k w g)
def bel (k : Kd) (u w : List Int) : Bool := below k (crs k w) u w
def greedyL (k : Kd) (row : List Nat) : List Int := row.foldl (upperL k) k.start
def delAt (row : List Nat) (i : Nat) : List Nat := row.take i ++ row.drop (i + 1)
def delsOf (k : Kd) (row : List Nat) : List (List Int) := (List.range row.length).map fun i => made k (delAt row i)
def Row (k : Kd) (r : List Nat) : Prop := ∀ g ∈ r, g < k.steps

theorem pick_mem (last : Bool) (g : Nat) (gs : List Nat) : pick last g gs ∈ g :: gs := by
  unfold pick
  split
  · rw [List.getLastD_eq_getLast?, List.getLast?_eq_some_getLast (List.cons_ne_nil g gs)]
    exact List.getLast_mem _
  · exact List.mem_cons_self
theorem falls_mem {k : Kd} {o : List Int} {g : Nat} : g ∈ falls k o ↔ g < k.steps ∧ crossedB k o g = true := by
  unfold falls
  rw [List.mem_filter, List.mem_range]
section
variable {k : Kd} (hk : k.ok)
include hk
theorem vstep {o : List Int} {g : Nat} (v : VL k o) (hg : g < k.steps) : VL k (stepL k o g) := by
  have := (okOf hk).vstep (o := o) (g := g) (by rw [sys_V]; exact v) (by rw [sys_m]; exact hg)
  rwa [sys_V, sys_step] at this
theorem vstart : VL k k.start := by
  have := (okOf hk).vst
  rwa [sys_V, sys_st] at this
theorem crs_dn {o : List Int} {g : Nat} (v : VL k o) (hg : g < k.steps) (c : crossedB k o g = true) : crs k (stepL k o g) + 1 = crs k o := by
  have := (okOf hk).dn (o := o) (g := g) (by rw [sys_V]; exact v) (by rw [sys_m]; exact hg) ((sys_cr hk v hg).mpr c)
  rwa [sys_len, sys_step] at this
theorem crs_up {o : List Int} {g : Nat} (v : VL k o) (hg : g < k.steps) (c : ¬ crossedB k o g = true) : crs k (stepL k o g) = crs k o + 1 := by
  have h := (okOf hk).len_cases (o := o) (g := g) (by rw [sys_V]; exact v) (by rw [sys_m]; exact hg)
  rw [sys_len, sys_step, sys_cr hk v hg] at h
  rcases h with h | h
  · exact h.1
  · exact absurd h.2 c
theorem no_falls {o : List Int} (v : VL k o) (h : falls k o = []) : o = k.start := by
  have := (okOf hk).fall (o := o) (by rw [sys_V]; exact v) fun g hg c => by
    rw [sys_m] at hg
    have hm : g ∈ falls k o := falls_mem.mpr ⟨hg, (sys_cr hk v hg).mp c⟩
    rw [h] at hm
    cases hm
  rwa [sys_st] at this
theorem falls_start : falls k k.start = [] := by
  cases h : falls k k.start with
  | nil => rfl
  | cons g gs =>
    have hm : g ∈ falls k k.start := by rw [h]; exact List.mem_cons_self
    obtain ⟨h1, h2⟩ := falls_mem.mp hm
    have := crs_dn hk (vstart hk) h1 h2
    rw [crs_start] at this
    omega
theorem falls_cons {o : List Int} {g : Nat} {gs : List Nat} (v : VL k o) (h : falls k o = g :: gs) (last : Bool) :
    pick last g gs < k.steps ∧ crossedB k o (pick last g gs) = true ∧ VL k (stepL k o (pick last g gs)) ∧ crs k (stepL k o (pick last g gs)) + 1 = crs k o := by
  have hm : pick last g gs ∈ falls k o := by rw [h]; exact pick_mem _ _ _
  obtain ⟨h1, h2⟩ := falls_mem.mp hm
  exact ⟨h1, h2, vstep hk v h1, crs_dn hk v h1 h2⟩
omit hk in
theorem desc_nil {o : List Int} (last : Bool) (h : falls k o = []) : desc k last (crs k o) o = [] := by
  cases crs k o with
  | zero => rfl
  | succ f => unfold desc; rw [h]
theorem desc_cons {o : List Int} {g : Nat} {gs : List Nat} (v : VL k o) (h : falls k o = g :: gs) (last : Bool) :
    desc k last (crs k o) o = pick last g gs :: desc k last (crs k (stepL k o (pick last g gs))) (stepL k o (pick last g gs)) := by
  have := (falls_cons hk v h last).2.2.2
  rw [← this]
  show (match falls k o with | [] => [] | g :: gs => pick last g gs :: desc k last _ (stepL k o (pick last g gs))) = _
  rw [h]
theorem desc_ml (last : Bool) : ∀ (n : Nat) {o : List Int}, VL k o → crs k o = n → Row k (desc k last n o) ∧ (sysOf k).ml (desc k last n o) = o ∧ (desc k last n o).length = n := by
  intro n
  induction n with
  | zero =>
    intro o v hn
    have : falls k o = [] := by
      cases h : falls k o with
      | nil => rfl
      | cons g gs => have := (falls_cons hk v h last).2.2.2; omega
    refine ⟨fun x hx => (by cases hx), ?_, rfl⟩
    rw [no_falls hk v this]
    exact sys_st k
  | succ n ih =>
    intro o v hn
    cases h : falls k o with
    | nil => rw [no_falls hk v h, crs_start] at hn; omega
    | cons g gs =>
      obtain ⟨h1, h2, h3, h4⟩ := falls_cons hk v h last
      obtain ⟨i1, i2, i3⟩ := ih h3 (by omega)
      have e : desc k last (n + 1) o = pick last g gs :: desc k last n (stepL k o (pick last g gs)) := by
        show (match falls k o with | [] => [] | g :: gs => pick last g gs :: desc k last n (stepL k o (pick last g gs))) = _
        rw [h]
      rw [e]
      refine ⟨fun x hx => ?_, ?_, by simp [i3]⟩
      · rcases List.mem_cons.mp hx with z | hx
        · rw [z]; exact h1
        · exact i1 x hx
      · show (sysOf k).step ((sysOf k).ml _) _ = o
        rw [i2]
        have := (okOf hk).ss (o := o) (g := pick last g gs) (by rw [sys_V]; exact v) (by rw [sys_m]; exact h1)
        rw [sys_step] at this ⊢
        exact this
omit hk in
theorem row_sys {r : List Nat} (h : Row k r) : (sysOf k).Row r := fun g hg => by rw [sys_m]; exact h g hg
omit hk in
theorem made_ml (row : List Nat) : made k row = (sysOf k).ml row.reverse := by
  have : ∀ r : List Nat, made k r.reverse = (sysOf k).ml r := by
    intro r
    induction r with
    | nil => exact (sys_st k).symm
    | cons g r ih =>
      show made k (g :: r).reverse = (sysOf k).step ((sysOf k).ml r) g
      rw [← ih, sys_step, List.reverse_cons]
      unfold made
      rw [List.foldl_append]
      rfl
  rw [← this, List.reverse_reverse]
theorem vmade {row : List Nat} (h : Row k row) : VL k (made k row) := by
  rw [made_ml]
  have := (okOf hk).vml (r := row.reverse) fun g hg => by rw [sys_m]; exact h g (List.mem_reverse.mp hg)
  rwa [sys_V] at this
theorem crs_made {row : List Nat} (h : Row k row) : crs k (made k row) ≤ row.length := by
  rw [made_ml]
  have := (okOf hk).mllen (r := row.reverse) fun g hg => by rw [sys_m]; exact h g (List.mem_reverse.mp hg)
  rwa [sys_len, List.length_reverse] at this
theorem rowOf_ok (last : Bool) {o : List Int} (v : VL k o) : Row k (rowOf k last o) ∧ made k (rowOf k last o) = o ∧ (rowOf k last o).length = crs k o := by
  obtain ⟨h1, h2, h3⟩ := desc_ml hk last _ v rfl
  refine ⟨fun g hg => h1 g (List.mem_reverse.mp hg), ?_, by unfold rowOf; rw [List.length_reverse, h3]⟩
  rw [made_ml]
  unfold rowOf
  rw [List.reverse_reverse, h2]
abbrev LeK (k : Kd) (u w : List Int) : Prop := Sys.Le (sysOf k) u w
theorem lesser_eq {o : List Int} {g : Nat} (v : VL k o) (hg : g < k.steps) : (sysOf k).lesser o g = lesserL k o g := by
  unfold Sys.lesser lesserL
  rw [sys_step]
  by_cases c : crossedB k o g = true
  · rw [if_pos c, if_pos ((sys_cr hk v hg).mpr c)]
  · rw [if_neg c, if_neg fun z => c ((sys_cr hk v hg).mp z)]
theorem upper_eq {o : List Int} {g : Nat} (v : VL k o) (hg : g < k.steps) : (sysOf k).upper o g = upperL k o g := by
  unfold Sys.upper upperL
  rw [sys_step]
  by_cases c : crossedB k o g = true
  · rw [if_pos c, if_pos ((sys_cr hk v hg).mpr c)]
  · rw [if_neg c, if_neg fun z => c ((sys_cr hk v hg).mp z)]
theorem vlesser {o : List Int} {g : Nat} (v : VL k o) (hg : g < k.steps) : VL k (lesserL k o g) := by
  unfold lesserL; split
  · exact vstep hk v hg
  · exact v
theorem vupper {o : List Int} {g : Nat} (v : VL k o) (hg : g < k.steps) : VL k (upperL k o g) := by
  unfold upperL; split
  · exact v
  · exact vstep hk v hg
omit hk in
theorem bel_nil {u w : List Int} (h : falls k w = []) : bel k u w = decide (u = k.start) := by
  unfold bel
  cases crs k w with
  | zero => rfl
  | succ f => unfold below; rw [h]
theorem bel_cons {u w : List Int} {g : Nat} {gs : List Nat} (v : VL k w) (h : falls k w = g :: gs) : bel k u w = bel k (lesserL k u g) (stepL k w g) := by
  have := (falls_cons hk v h false).2.2.2
  unfold bel
  rw [← show crs k (stepL k w g) + 1 = crs k w from this]
  show (match falls k w with | [] => _ | g :: _ => below k _ (lesserL k u g) (stepL k w g)) = _
  rw [h]
theorem bel_iff : ∀ (n : Nat) {u w : List Int}, VL k u → VL k w → crs k w = n → (bel k u w = true ↔ LeK k u w) := by
  intro n
  induction n with
  | zero =>
    intro u w vu vw hn
    have : falls k w = [] := by
      cases h : falls k w with
      | nil => rfl
      | cons g gs => have := (falls_cons hk vw h false).2.2.2; omega
    rw [bel_nil this, decide_eq_true_eq, no_falls hk vw this, ← sys_st]
    exact ((okOf hk).le_st (by rw [sys_V]; exact vu)).symm
  | succ n ih =>
    intro u w vu vw hn
    cases h : falls k w with
    | nil => rw [no_falls hk vw h, crs_start] at hn; omega
    | cons g gs =>
      obtain ⟨h1, h2, h3, h4⟩ := falls_cons hk vw h false
      have h1 : g < k.steps := h1
      have h2 : crossedB k w g = true := h2
      have h3 : VL k (stepL k w g) := h3
      have h4 : crs k (stepL k w g) + 1 = crs k w := h4
      rw [bel_cons hk vw h, ih (vlesser hk vu h1) h3 (by omega)]
      have := (okOf hk).le_iff (u := u) (w := w) (g := g) (by rw [sys_V]; exact vu) (by rw [sys_V]; exact vw) (by rw [sys_m]; exact h1) ((sys_cr hk vw h1).mpr h2)
      rw [lesser_eq hk vu h1, sys_step] at this
      exact this.symm
theorem bel_le {u w : List Int} (vu : VL k u) (vw : VL k w) : bel k u w = true ↔ LeK k u w := bel_iff hk _ vu vw rfl
end
end C47
namespace C47
open Sys (Del)
/-! ### one step left out -/
theorem del_iff {a b : List Nat} : Del a b ↔ ∃ x g y, b = x ++ g :: y ∧ a = x ++ y := by
  constructor
  · intro h
    induction h with
    | head g r => exact ⟨[], g, r, rfl, rfl⟩
    | tail g r r' _ ih =>
      obtain ⟨x, g', y, e1, e2⟩ := ih
      exact ⟨g :: x, g', y, by rw [e1]; rfl, by rw [e2]; rfl⟩
  · rintro ⟨x, g, y, rfl, rfl⟩
    induction x with
    | nil => exact .head _ _
    | cons z x ih => exact .tail _ _ _ ih
theorem del_rev {a b : List Nat} (h : Del a b) : Del a.reverse b.reverse := by
  obtain ⟨x, g, y, rfl, rfl⟩ := del_iff.mp h
  exact del_iff.mpr ⟨y.reverse, g, x.reverse, by simp, by simp⟩
theorem delAt_del {row : List Nat} {i : Nat} (h : i < row.length) : Del (delAt row i) row := by
  refine del_iff.mpr ⟨row.take i, row[i], row.drop (i + 1), ?_, rfl⟩
  rw [← List.drop_eq_getElem_cons h, List.take_append_drop]
theorem del_at {a row : List Nat} (h : Del a row) : ∃ i, i < row.length ∧ a = delAt row i := by
  obtain ⟨x, g, y, rfl, rfl⟩ := del_iff.mp h
  refine ⟨x.length, by simp, ?_⟩
  unfold delAt
  rw [List.take_left, show x ++ g :: y = (x ++ [g]) ++ y by simp, show x.length + 1 = (x ++ [g]).length by simp, List.drop_left]
theorem delAt_row {k : Kd} {row : List Nat} (h : Row k row) (i : Nat) : Row k (delAt row i) := by
  intro g hg
  unfold delAt at hg
  rcases List.mem_append.mp hg with z | z
  · exact h g (List.mem_of_mem_take z)
  · exact h g (List.mem_of_mem_drop z)
section
variable {k : Kd} (hk : k.ok)
include hk
theorem mem_dels {last : Bool} {u w : List Int} (vu : VL k u) (vw : VL k w) (hl : crs k u + 1 = crs k w) : u ∈ delsOf k (rowOf k last w) ↔ LeK k u w := by
  obtain ⟨h1, h2, h3⟩ := rowOf_ok hk last vw
  have key := (okOf hk).le_del (u := u) (r := (rowOf k last w).reverse) (fun g hg => by rw [sys_m]; exact h1 g (List.mem_reverse.mp hg)) (by rw [sys_V]; exact vu)
    (by rw [sys_len, ← made_ml, h2]; exact hl)
  rw [← made_ml, h2] at key
  refine Iff.trans ?_ key.symm
  unfold delsOf
  rw [List.mem_map]
  constructor
  · rintro ⟨i, hi, e⟩
    have := delAt_del (List.mem_range.mp hi)
    refine ⟨(delAt (rowOf k last w) i).reverse, del_rev this, ?_⟩
    rw [← made_ml]; exact e.symm
  · rintro ⟨r', d, e⟩
    have d2 := del_rev d
    rw [List.reverse_reverse] at d2
    obtain ⟨i, hi, e2⟩ := del_at d2
    refine ⟨i, List.mem_range.mpr hi, ?_⟩
    rw [← e2, made_ml, List.reverse_reverse]; exact e.symm
theorem dels_V {last : Bool} {u w : List Int} (vw : VL k w) (h : u ∈ delsOf k (rowOf k last w)) : VL k u := by
  unfold delsOf at h
  obtain ⟨i, _, rfl⟩ := List.mem_map.mp h
  exact vmade hk (delAt_row (rowOf_ok hk last vw).1 i)
end
/-- some way to put lists in order -/
structure Srt where
  f : List (List Int) → List (List Int)
  mem : ∀ l v, v ∈ f l ↔ v ∈ l
def ddTo (l : List (List Int)) : Nat → List (List Int)
  | 0 => []
  | i + 1 => ddTo l i ++ (if i = 0 ∨ l[i - 1]? ≠ l[i]? then (l[i]?).toList else [])
theorem ddTo_sub (l : List (List Int)) : ∀ i v, v ∈ ddTo l i → v ∈ l := by
  intro i
  induction i with
  | zero => intro v h; cases h
  | succ i ih =>
    intro v h
    rcases List.mem_append.mp h with z | z
    · exact ih v z
    · split at z
      · rw [Option.mem_toList] at z
        exact List.mem_of_getElem? z
      · cases z
theorem ddTo_sup (l : List (List Int)) : ∀ i j v, j < i → l[j]? = some v → v ∈ ddTo l i := by
  intro i
  induction i with
  | zero => intro j v h; omega
  | succ i ih =>
    intro j v hj e
    show v ∈ ddTo l i ++ _
    by_cases c : j < i
    · exact List.mem_append_left _ (ih j v c e)
    · have : j = i := by omega
      subst this
      by_cases q : j = 0 ∨ l[j - 1]? ≠ l[j]?
      · rw [if_pos q, e]
        exact List.mem_append_right _ (by simp)
      · rw [if_neg q]
        refine List.mem_append_left _ (ih (j - 1) v (by omega) ?_)
        have : l[j - 1]? = l[j]? := Decidable.byContradiction fun z => q (.inr z)
        rw [this, e]
def usort (S : Srt) (l : List (List Int)) : List (List Int) := ddTo (S.f l) (S.f l).length
theorem mem_usort (S : Srt) {l : List (List Int)} {v : List Int} : v ∈ usort S l ↔ v ∈ l := by
  rw [← S.mem l v]
  constructor
  · exact ddTo_sub _ _ _
  · intro h
    obtain ⟨i, hi, e⟩ := List.mem_iff_getElem.mp h
    exact ddTo_sup _ _ i v hi (by rw [List.getElem?_eq_getElem hi, e])
def nextsRaw (k : Kd) (o : List Int) : List (List Int) := (delsOf k (rowOf k false o)).filter fun v => decide ((crs k v : Int) = ((rowOf k false o).length : Int) - 1)
def nexts (k : Kd) (S : Srt) (o : List Int) : List (List Int) := usort S (nextsRaw k o)
def goods (k : Kd) (S : Srt) (one w : List Int) : List (List Int) := (nexts k S w).filter (bel k one)
/-- the rest of a climb, from the top down -/
def climbTo (k : Kd) (S : Srt) (one : List Int) : Nat → List Int → List (List Int)
  | 0, w => [w]
  | f + 1, w => if w = one then [w] else match goods k S one w with
    | [] => [w]
    | v :: _ => w :: climbTo k S one f v
def climbL (k : Kd) (S : Srt) (one other : List Int) : List (List Int) := (climbTo k S one (crs k other - crs k one) other).reverse
/-- from the top down: each one beneath the one ahead, one crossing less -/
def Down (k : Kd) (one : List Int) : List (List Int) → Prop
  | [] => False
  | [w] => w = one ∧ VL k w
  | w :: v :: r => VL k w ∧ LeK k v w ∧ crs k v + 1 = crs k w ∧ Down k one (v :: r)
section
variable {k : Kd} (hk : k.ok) {S : Srt}
include hk
theorem mem_nexts {w v : List Int} (vw : VL k w) : v ∈ nexts k S w ↔ VL k v ∧ LeK k v w ∧ crs k v + 1 = crs k w := by
  unfold nexts
  rw [mem_usort]
  unfold nextsRaw
  rw [List.mem_filter, decide_eq_true_eq, (rowOf_ok hk false vw).2.2]
  constructor
  · rintro ⟨h1, h2⟩
    have vv := dels_V hk vw h1
    have hl : crs k v + 1 = crs k w := by omega
    exact ⟨vv, (mem_dels hk vv vw hl).mp h1, hl⟩
  · rintro ⟨h1, h2, h3⟩
    exact ⟨(mem_dels hk h1 vw h3).mpr h2, by omega⟩
theorem goods_ne {one w : List Int} (h : LeK k one w) (ne : w ≠ one) : ∃ v r, goods k S one w = v :: r ∧ VL k v ∧ LeK k v w ∧ crs k v + 1 = crs k w ∧ LeK k one v := by
  have vo : VL k one := by have := h.vu; rwa [sys_V] at this
  have vw : VL k w := by have := h.vw; rwa [sys_V] at this
  have hm : ∀ v, v ∈ goods k S one w ↔ (VL k v ∧ LeK k v w ∧ crs k v + 1 = crs k w) ∧ LeK k one v := by
    intro v
    unfold goods
    rw [List.mem_filter, mem_nexts hk vw]
    constructor
    · rintro ⟨h1, h2⟩; exact ⟨h1, (bel_le hk vo h1.1).mp h2⟩
    · rintro ⟨h1, h2⟩; exact ⟨h1, (bel_le hk vo h1.1).mpr h2⟩
  obtain ⟨v, a1, a2, a3⟩ := (okOf hk).coatom _ rfl h (Ne.symm ne)
  rw [sys_len] at a3
  have vv : VL k v := by have := a2.vu; rwa [sys_V] at this
  have hv := (hm v).mpr ⟨⟨vv, .one a2, a3⟩, a1⟩
  cases e : goods k S one w with
  | nil => rw [e] at hv; cases hv
  | cons u r =>
    have hu := (hm u).mp (by rw [e]; exact List.mem_cons_self)
    exact ⟨u, r, rfl, hu.1.1, hu.1.2.1, hu.1.2.2, hu.2⟩
theorem le_crs {u w : List Int} (h : LeK k u w) : u = w ∨ crs k u < crs k w := by
  have := (okOf hk).le_len h
  rwa [sys_len] at this
theorem climbTo_ok : ∀ (n : Nat) {one w : List Int}, LeK k one w → crs k w - crs k one = n → Down k one (climbTo k S one n w) ∧ (climbTo k S one n w).length = n + 1 ∧ (climbTo k S one n w).head? = some w := by
  intro n
  induction n with
  | zero =>
    intro one w h hn
    have vw : VL k w := by have := h.vw; rwa [sys_V] at this
    rcases le_crs hk h with e | e
    · exact ⟨⟨e.symm, vw⟩, rfl, rfl⟩
    · omega
  | succ n ih =>
    intro one w h hn
    have vw : VL k w := by have := h.vw; rwa [sys_V] at this
    have ne : w ≠ one := fun e => by rw [e] at hn; omega
    obtain ⟨v, r, e, h1, h2, h3, h4⟩ := goods_ne hk (S := S) h ne
    obtain ⟨i1, i2, i3⟩ := ih h4 (by omega)
    have e2 : climbTo k S one (n + 1) w = w :: climbTo k S one n v := by
      show (if w = one then [w] else match goods k S one w with | [] => [w] | v :: _ => w :: climbTo k S one n v) = _
      rw [if_neg ne, e]
    rw [e2]
    refine ⟨?_, by simp [i2], rfl⟩
    revert i1 i3
    cases climbTo k S one n v with
    | nil => intro i1; exact i1.elim
    | cons x xs =>
      intro i1 i3
      have : x = v := by simpa using i3
      subst this
      exact ⟨vw, h2, h3, i1⟩
/-- the loop's turn -/
theorem climbTo_turn {one w : List Int} (h : LeK k one w) (ne : w ≠ one) : ∃ v r, goods k S one w = v :: r ∧ VL k v ∧ LeK k one v ∧ crs k v + 1 = crs k w ∧ climbTo k S one (crs k w - crs k one) w = w :: climbTo k S one (crs k v - crs k one) v := by
  obtain ⟨v, r, e, h1, h2, h3, h4⟩ := goods_ne hk (S := S) h ne
  refine ⟨v, r, e, h1, h4, h3, ?_⟩
  have hl : crs k one ≤ crs k v := by rcases le_crs hk h4 with z | z; rw [z]; exact Nat.le_refl _; omega
  rw [show crs k w - crs k one = (crs k v - crs k one) + 1 by omega]
  show (if w = one then [w] else match goods k S one w with | [] => [w] | v :: _ => w :: climbTo k S one _ v) = _
  rw [if_neg ne, e]
omit hk in
theorem climbTo_end {one : List Int} (n : Nat) : climbTo k S one n one = [one] := by
  cases n with
  | zero => rfl
  | succ n => show (if one = one then [one] else _) = _; rw [if_pos rfl]
end
/-! ### climbs judged -/
/-- from the bottom up -/
def Up (k : Kd) : List (List Int) → Prop
  | [] => True
  | [_] => True
  | u :: w :: r => (crs k u + 1 = crs k w ∧ LeK k u w) ∧ Up k (w :: r)
/-- what a list of orders is: a climb -/
def IsClimb (k : Kd) (one other : List Int) (vs : List (List Int)) : Prop := vs.head? = some one ∧ vs.getLast? = some other ∧ Up k vs
theorem Up_snoc {k : Kd} : ∀ {l : List (List Int)} {u w : List Int}, Up k (l ++ [u]) → crs k u + 1 = crs k w → LeK k u w → Up k (l ++ [u, w])
  | [], _, _, _, h1, h2 => ⟨⟨h1, h2⟩, trivial⟩
  | [x], _, _, h, h1, h2 => ⟨h.1, ⟨h1, h2⟩, trivial⟩
  | x :: y :: l, _, _, h, h1, h2 => ⟨h.1, Up_snoc (l := y :: l) h.2 h1 h2⟩
theorem Down_up {k : Kd} {one : List Int} : ∀ {l : List (List Int)}, Down k one l → Up k l.reverse ∧ l.getLast? = some one ∧ ∀ v ∈ l, VL k v
  | [], h => h.elim
  | [w], h => ⟨trivial, by rw [h.1]; rfl, fun v hv => by rw [List.mem_singleton.mp hv]; exact h.2⟩
  | w :: v :: r, h => by
    obtain ⟨h0, h1, h2, h3⟩ := h
    obtain ⟨i1, i2, i3⟩ := Down_up h3
    refine ⟨?_, ?_, fun x hx => ?_⟩
    · rw [List.reverse_cons, List.reverse_cons, List.append_assoc]
      rw [List.reverse_cons] at i1
      exact Up_snoc i1 h2 h1
    · rw [List.getLast?_cons_cons]; exact i2
    · rcases List.mem_cons.mp hx with z | z
      · rw [z]; exact h0
      · exact i3 x z
section
variable {k : Kd} (hk : k.ok) {S : Srt}
include hk
theorem climbL_ok {one other : List Int} (h : LeK k one other) : IsClimb k one other (climbL k S one other) ∧ (∀ v ∈ climbL k S one other, VL k v) ∧ (climbL k S one other).length = crs k other - crs k one + 1 := by
  obtain ⟨h1, h2, h3⟩ := climbTo_ok hk (S := S) _ h rfl
  obtain ⟨i1, i2, i3⟩ := Down_up h1
  refine ⟨⟨?_, ?_, i1⟩, fun v hv => i3 v (List.mem_reverse.mp hv), by unfold climbL; rw [List.length_reverse, h2]⟩
  · unfold climbL; rw [List.head?_reverse]; exact i2
  · unfold climbL; rw [List.getLast?_reverse]; exact h3
theorem bel_start {w : List Int} (v : VL k w) : LeK k k.start w := by
  have := (okOf hk).st_le _ (w := w) (by rw [sys_V]; exact v) rfl
  rwa [sys_st] at this
omit hk in
theorem le_refl {w : List Int} (v : VL k w) : LeK k w w := .refl (by rw [sys_V]; exact v)
end
/-- Up by places -/
theorem Up_iff {k : Kd} : ∀ {vs : List (List Int)}, Up k vs ↔ ∀ i (h : i + 1 < vs.length), crs k vs[i] + 1 = crs k vs[i + 1] ∧ LeK k vs[i] vs[i + 1]
  | [] => ⟨fun _ i h => by simp at h, fun _ => trivial⟩
  | [_] => ⟨fun _ i h => by simp at h, fun _ => trivial⟩
  | u :: w :: r => by
    have ih := Up_iff (k := k) (vs := w :: r)
    constructor
    · rintro ⟨h1, h2⟩ i h
      cases i with
      | zero => exact h1
      | succ i => exact ih.mp h2 i (by simpa using h)
    · intro h
      exact ⟨h 0 (by simp), ih.mpr fun i hi => h (i + 1) (by simpa using hi)⟩
/-- the crossings rise by one -/
def rises (k : Kd) (one other : List Int) (vs : List (List Int)) : Prop := vs.map (fun v => (crs k v : Int)) = irange (crs k one) (crs k other + 1 - crs k one)
theorem rises_iff {k : Kd} {one other : List Int} {vs : List (List Int)} (h1 : vs.head? = some one) (h2 : vs.getLast? = some other) :
    rises k one other vs ↔ ∀ i (h : i + 1 < vs.length), crs k vs[i] + 1 = crs k vs[i + 1] := by
  have hne : vs ≠ [] := fun e => by rw [e] at h1; cases h1
  have hpos : 0 < vs.length := List.length_pos_iff.mpr hne
  have e0 : vs[0] = one := by
    rw [List.head?_eq_getElem?, List.getElem?_eq_getElem hpos] at h1
    exact Option.some.inj h1
  have el : vs[vs.length - 1] = other := by
    rw [List.getLast?_eq_getElem?, List.getElem?_eq_getElem (by omega)] at h2
    exact Option.some.inj h2
  unfold rises
  constructor
  · intro h i hi
    have hlen := congrArg List.length h
    rw [List.length_map, irange_len] at hlen
    have g : ∀ j (hj : j < vs.length), (crs k vs[j] : Int) = crs k one + j := by
      intro j hj
      have q : gi (vs.map (fun v => (crs k v : Int))) j = gi (irange (crs k one) (crs k other + 1 - crs k one)) j := by rw [h]
      rw [gi_irange (by omega), gi_lt (by rw [List.length_map]; exact hj), List.getElem_map] at q
      exact q
    have a := g i (by omega)
    have b := g (i + 1) hi
    omega
  · intro h
    have g : ∀ j (hj : j < vs.length), crs k vs[j] = crs k one + j := by
      intro j
      induction j with
      | zero => intro hj; rw [e0]; omega
      | succ j ih => intro hj; have := ih (by omega); have := h j hj; omega
    have gl := g (vs.length - 1) (by omega)
    rw [el] at gl
    refine gi_ext (by rw [List.length_map, irange_len]; omega) fun i hi => ?_
    rw [List.length_map] at hi
    rw [gi_lt (by rw [List.length_map]; exact hi), List.getElem_map, gi_irange (by omega), g i hi]
    omega
/-- the program's word -/
theorem prog_iff {k : Kd} (hk : k.ok) {one other : List Int} {vs : List (List Int)} (hv : ∀ v ∈ vs, VL k v) (h1 : vs.head? = some one) (h2 : vs.getLast? = some other) :
    (rises k one other vs ∧ ∀ i (h : i + 1 < vs.length), bel k vs[i] vs[i + 1] = true) ↔ Up k vs := by
  rw [rises_iff h1 h2, Up_iff]
  constructor
  · rintro ⟨a, b⟩ i h
    exact ⟨a i h, (bel_le hk (hv _ (List.getElem_mem _)) (hv _ (List.getElem_mem _))).mp (b i h)⟩
  · intro h
    exact ⟨fun i hi => (h i hi).1, fun i hi => (bel_le hk (hv _ (List.getElem_mem _)) (hv _ (List.getElem_mem _))).mpr (h i hi).2⟩
/-- the law's word -/
theorem law_iff {k : Kd} (hk : k.ok) {vs : List (List Int)} (hv : ∀ v ∈ vs, VL k v) :
    (∀ i (h : i + 1 < vs.length), (rowOf k true vs[i + 1]).length = (rowOf k true vs[i]).length + 1 ∧ vs[i] ∈ delsOf k (rowOf k true vs[i + 1])) ↔ Up k vs := by
  rw [Up_iff]
  have e : ∀ i (h : i < vs.length), (rowOf k true vs[i]).length = crs k vs[i] := fun i h => (rowOf_ok hk true (hv _ (List.getElem_mem _))).2.2
  constructor
  · intro h i hi
    obtain ⟨a, b⟩ := h i hi
    rw [e, e] at a
    exact ⟨a.symm, (mem_dels hk (hv _ (List.getElem_mem _)) (hv _ (List.getElem_mem _)) a.symm).mp b⟩
  · intro h i hi
    obtain ⟨a, b⟩ := h i hi
    rw [e, e]
    exact ⟨a.symm, (mem_dels hk (hv _ (List.getElem_mem _)) (hv _ (List.getElem_mem _)) a).mpr b⟩
/-! ### parts of greedy rows -/
theorem greedy_ml {k : Kd} (hk : k.ok) : ∀ {r : List Nat}, Row k r.reverse → greedyL k r.reverse = (sysOf k).greedy r ∧ VL k (greedyL k r.reverse)
  | [], _ => ⟨(sys_st k).symm, vstart hk⟩
  | g :: r, h => by
    rw [List.reverse_cons] at h ⊢
    have hr : Row k r.reverse := fun x hx => h x (List.mem_append_left _ hx)
    have hg : g < k.steps := h g (List.mem_append_right _ (List.mem_singleton.mpr rfl))
    obtain ⟨i1, i2⟩ := greedy_ml hk hr
    have e : greedyL k (r.reverse ++ [g]) = upperL k (greedyL k r.reverse) g := by unfold greedyL; rw [List.foldl_append]; rfl
    rw [e]
    refine ⟨?_, vupper hk i2 hg⟩
    show _ = (sysOf k).upper ((sysOf k).greedy r) g
    rw [← i1, upper_eq hk i2 hg]
theorem vgreedy {k : Kd} (hk : k.ok) {row : List Nat} (h : Row k row) : VL k (greedyL k row) := by
  have := (greedy_ml hk (r := row.reverse) (by rw [List.reverse_reverse]; exact h)).2
  rwa [List.reverse_reverse] at this
theorem crs_greedy {k : Kd} (hk : k.ok) : ∀ (r : List Nat), Row k r.reverse → crs k (greedyL k r.reverse) ≤ r.length
  | [], _ => by show crs k k.start ≤ 0; rw [crs_start]; exact Nat.le_refl _
  | g :: r, h => by
    rw [List.reverse_cons] at h ⊢
    have hr : Row k r.reverse := fun x hx => h x (List.mem_append_left _ hx)
    have hg : g < k.steps := h g (List.mem_append_right _ (List.mem_singleton.mpr rfl))
    have ih := crs_greedy hk r hr
    have e : greedyL k (r.reverse ++ [g]) = upperL k (greedyL k r.reverse) g := by unfold greedyL; rw [List.foldl_append]; rfl
    rw [e]
    unfold upperL
    rw [List.length_cons]
    split
    · omega
    · rename_i c
      have := crs_up hk (greedy_ml hk hr).2 hg c
      omega
theorem part_rev {a b : List Nat} (h : a.Sublist b) : Sys.Part a b := by
  induction h with
  | slnil => exact .nil
  | cons g _ ih => exact .skip ih
  | cons_cons g _ ih => exact .keep ih
theorem part_greedy {k : Kd} (hk : k.ok) {p row : List Nat} (h : Row k row) (hp : p.Sublist row) : LeK k (made k p) (greedyL k row) := by
  have e := (greedy_ml hk (r := row.reverse) (by rw [List.reverse_reverse]; exact h)).1
  rw [List.reverse_reverse] at e
  rw [e, made_ml]
  exact (okOf hk).part_le (part_rev hp.reverse) fun g hg => by rw [sys_m]; exact h g (List.mem_reverse.mp hg)
end C47
namespace W47
open PySem PySem.Spec PyProof.Rows L2 Evl

/-! ### expressions by what they give, the heap only growing -/
abbrev PV := V → Hp → Prop
/-- what stays true as the heap grows -/
def Stb (P : PV) : Prop := ∀ v H H', Ex H H' → P v H → P v H'
def StbA (P : List V → Hp → Prop) : Prop := ∀ v H H', Ex H H' → P v H → P v H'
def anyE (X : Cx) (e : Expr) : TE := fun σ H Q => ∃ t, PE X e t ∧ t σ H Q
def anyT (X : Cx) (e : Expr) : TT := fun σ H Q => ∃ t, PT X e t ∧ t σ H Q
def anyA (X : Cx) (es : List Expr) : TA := fun σ H Q => ∃ t, PA X es t ∧ t σ H Q
def anyS (X : Cx) (st : List Stmt) : TS := fun D σ H => ∃ t, PSs X st t ∧ t D σ H
theorem pe_any {X : Cx} {e : Expr} : PE X e (anyE X e) := ⟨fun pins s σ H Q I ⟨_, h, q⟩ => h.run pins s σ H Q I q⟩
theorem pt_any {X : Cx} {e : Expr} : PT X e (anyT X e) := ⟨fun pins s σ H Q I ⟨_, h, q⟩ => h.run pins s σ H Q I q⟩
theorem pa_any {X : Cx} {es : List Expr} : PA X es (anyA X es) := ⟨fun pos pins s σ H Q I ⟨_, h, q⟩ => h.run pos pins s σ H Q I q⟩
theorem pss_any {X : Cx} {st : List Stmt} : PSs X st (anyS X st) := ⟨fun pins s σ H D I ⟨_, h, q⟩ => h.run pins s σ H D I q⟩
/-- e gives some v of which P -/
def VN (X : Cx) (e : Expr) (σ : L2.St) (H : Hp) (P : PV) : Prop := ∀ H1, Ex H H1 → ∀ Q : VK, (∀ v H2, Ex H1 H2 → P v H2 → Q v H2) → anyE X e σ H1 Q
abbrev Is (v : V) : PV := fun x _ => x = v
abbrev VE (X : Cx) (e : Expr) (σ : L2.St) (H : Hp) (v : V) : Prop := VN X e σ H (Is v)
def VT (X : Cx) (e : Expr) (σ : L2.St) (H : Hp) (b : Bool) : Prop := ∀ H1, Ex H H1 → ∀ Q : Bool → Hp → Prop, (∀ H2, Ex H1 H2 → Q b H2) → anyT X e σ H1 Q
def VA (X : Cx) (es : List Expr) (σ : L2.St) (H : Hp) (P : List V → Hp → Prop) : Prop := ∀ H1, Ex H H1 → ∀ Q : List V → Hp → Prop, (∀ vs H2, Ex H1 H2 → P vs H2 → Q vs H2) → anyA X es σ H1 Q
abbrev VS (X : Cx) (st : List Stmt) (D : Ends) (σ : L2.St) (H : Hp) : Prop := anyS X st D σ H

/-! ### predicates -/
/-- a list of these at the value, to be read -/
def isL (K : PySem.W.Frag) (xs : List V) : PV := fun v H => ∃ p, v = .ref p ∧ SqL K H p xs
/-- a new list of these -/
def newL (H0 : Hp) (xs : List V) : PV := fun v H => ∃ p, v = .ref p ∧ H0 p = none ∧ H p = some (.lst xs)
abbrev isI (o : List Int) : List V := o.map V.int
theorem stb_is {v : V} : Stb (Is v) := fun _ _ _ _ h => h
theorem stb_isL {K : PySem.W.Frag} {xs : List V} : Stb (isL K xs) := fun _ _ _ e ⟨p, h1, h2⟩ => ⟨p, h1, ex_l e h2⟩
theorem stb_newL {H0 : Hp} {xs : List V} : Stb (newL H0 xs) := fun _ _ _ e ⟨p, h1, h2, h3⟩ => ⟨p, h1, h2, e _ _ h3⟩
theorem newL.l {K : PySem.W.Frag} {H0 H : Hp} {xs : List V} {v : V} (h : newL H0 xs v H) : isL K xs v H := by
  obtain ⟨p, h1, _, h3⟩ := h
  exact ⟨p, h1, sq_of h3⟩
theorem newL.back {H0 H1 H : Hp} {xs : List V} {v : V} (e : Ex H0 H1) (h : newL H1 xs v H) : newL H0 xs v H := by
  obtain ⟨p, h1, h2, h3⟩ := h
  exact ⟨p, h1, fresh_back e h2, h3⟩
mutual
theorem Dp.mono {K : PySem.W.Frag} {H H' : Hp} (e : Ex H H') : ∀ {v : V} {d : PyData}, Dp K H v d → Dp K H' v d
  | _, _, .non => .non
  | _, _, .bl b => .bl b
  | _, _, .int i => .int i
  | _, _, .str x => .str x
  | _, _, .lst h a => .lst (ex_l e h) (DpAll.mono e a)
  | _, _, .tup h a => .tup (ex_t e h) (DpAll.mono e a)
theorem DpAll.mono {K : PySem.W.Frag} {H H' : Hp} (e : Ex H H') : ∀ {vs : List V} {ds : List PyData}, DpAll K H vs ds → DpAll K H' vs ds
  | _, _, .nil => .nil
  | _, _, .cons h a => .cons (Dp.mono e h) (DpAll.mono e a)
end
/-- data -/
def isD (K : PySem.W.Frag) (d : PyData) : PV := fun v H => Dp K H v d
theorem stb_isD {K : PySem.W.Frag} {d : PyData} : Stb (isD K d) := fun _ _ _ e h => Dp.mono e h
theorem dp_ints {K : PySem.W.Frag} {H : Hp} : ∀ o : List Int, DpAll K H (isI o) (o.map .int)
  | [] => .nil
  | x :: o => .cons (.int x) (dp_ints o)
abbrev dL (o : List Int) : PyData := .list (o.map .int)
theorem isL.d {K : PySem.W.Frag} {H : Hp} {o : List Int} {v : V} (h : isL K (isI o) v H) : isD K (dL o) v H := by
  obtain ⟨p, rfl, h⟩ := h
  exact .lst h (dp_ints o)

section
variable {X : Cx} {σ : L2.St} {H H' : Hp} {a b e : Expr} {es : List Expr} {P P' Pa Pb : PV} {pos : Pos} {x y v : V}

theorem VN.up (h : VN X e σ H P) (ex : Ex H H') : VN X e σ H' P := fun H1 e1 Q q => h H1 (ex.trans e1) Q q
theorem VT.up {c : Bool} (h : VT X e σ H c) (ex : Ex H H') : VT X e σ H' c := fun H1 e1 Q q => h H1 (ex.trans e1) Q q
theorem VA.up {P : List V → Hp → Prop} (h : VA X es σ H P) (ex : Ex H H') : VA X es σ H' P := fun H1 e1 Q q => h H1 (ex.trans e1) Q q
theorem VN.imp (h : VN X e σ H P) (i : ∀ v H', Ex H H' → P v H' → P' v H') : VN X e σ H P' := fun H1 e1 Q q => h H1 e1 Q fun v H2 e2 p => q v H2 e2 (i v H2 (e1.trans e2) p)
theorem VE.to (h : VE X e σ H x) (i : x = y) : VE X e σ H y := i ▸ h
theorem VT.to {c d : Bool} (h : VT X e σ H c) (i : c = d) : VT X e σ H d := i ▸ h

/-- an expression by its rule -/
theorem vn_by {t : TE} (h : PE X e t) (q : ∀ H1, Ex H H1 → ∀ Q : VK, (∀ v H2, Ex H1 H2 → P v H2 → Q v H2) → t σ H1 Q) : VN X e σ H P := fun H1 e1 Q k => ⟨t, h, q H1 e1 Q k⟩
theorem vt_by {t : TT} {c : Bool} (h : PT X e t) (q : ∀ H1, Ex H H1 → ∀ Q : Bool → Hp → Prop, (∀ H2, Ex H1 H2 → Q c H2) → t σ H1 Q) : VT X e σ H c := fun H1 e1 Q k => ⟨t, h, q H1 e1 Q k⟩
theorem va_by {t : TA} {P : List V → Hp → Prop} (h : PA X es t) (q : ∀ H1, Ex H H1 → ∀ Q : List V → Hp → Prop, (∀ v H2, Ex H1 H2 → P v H2 → Q v H2) → t σ H1 Q) : VA X es σ H P := fun H1 e1 Q k => ⟨t, h, q H1 e1 Q k⟩
/-- in the heap as it stands -/
theorem VN.here (h : VN X e σ H P) {Q : VK} (k : ∀ v H1, Ex H H1 → P v H1 → Q v H1) : anyE X e σ H Q := h H (Ex.refl H) Q k
theorem VT.here {c : Bool} (h : VT X e σ H c) {Q : Bool → Hp → Prop} (k : ∀ H1, Ex H H1 → Q c H1) : anyT X e σ H Q := h H (Ex.refl H) Q k
theorem VA.here {P : List V → Hp → Prop} (h : VA X es σ H P) {Q : List V → Hp → Prop} (k : ∀ v H1, Ex H H1 → P v H1 → Q v H1) : anyA X es σ H Q := h H (Ex.refl H) Q k

theorem lv (i : Nat) {n : Str} (h : σ[i]? = some (some v) := by rfl) (hN : X.N[i]? = some n := by rfl) (hv : Vis X.env.scope n := by first | exact Or.inl rfl | exact Or.inr (Or.inl rfl) | exact Or.inr (Or.inr rfl))
    (hd : (n == ("__debug__" : Str)) = false := by decide) (hcd : (n == ("__classdict__" : Str)) = false := by decide) : VE X (.Name n pos) σ H v :=
  vn_by (pe_var hN hv hd hcd) fun H1 _ _ q => ⟨v, h, q v H1 (Ex.refl H1) rfl⟩
theorem ve_int {i : Int} {j} : VE X (.Constant (.int i) j pos) σ H (.int i) := vn_by pe_int fun H1 _ _ q => q _ H1 (Ex.refl H1) rfl
theorem ve_bl {c : Bool} {j} : VE X (.Constant (.bool c) j pos) σ H (.bl c) := vn_by pe_bl fun H1 _ _ q => q _ H1 (Ex.refl H1) rfl
theorem ve_non {j} : VE X (.Constant .none j pos) σ H .non := vn_by pe_non fun H1 _ _ q => q _ H1 (Ex.refl H1) rfl
theorem ve_str {z : Str} {j} : VE X (.Constant (.str z) j pos) σ H (.str z) := vn_by pe_str fun H1 _ _ q => q _ H1 (Ex.refl H1) rfl
theorem ve_glob {n : Str} {u : Value} (hm : X.mg n = some u) (r : RelV v u) (hg : Gl X n := by rfl) (hd : (n == ("__debug__" : Str)) = false := by decide) : VE X (.Name n pos) σ H v := vn_by (pe_glob hg hm r hd) fun H1 _ _ q => q _ H1 (Ex.refl H1) rfl

/-- two parts in a row -/
theorem two {Q : V → V → Hp → Prop} (ha : VN X a σ H Pa) (hb : VN X b σ H Pb) (sa : Stb Pa) (q : ∀ x y H1, Ex H H1 → Pa x H1 → Pb y H1 → Q x y H1) : ∀ H1, Ex H H1 → (∀ x y H2, Q x y H2 → Q x y H2) → anyE X a σ H1 fun x H2 => anyE X b σ H2 fun y H3 => Q x y H3 :=
  fun H1 e1 _ => ha H1 e1 _ fun x H2 e2 px => hb H2 (e1.trans e2) _ fun y H3 e3 py => q x y H3 ((e1.trans e2).trans e3) (sa _ _ _ e3 px) py
/-- a two-place reading on values -/
def RR (r : R2) (x y : V) (H : Hp) (P : PV) : Prop := ∀ Q : VK, (∀ v H2, Ex H H2 → P v H2 → Q v H2) → r x y H Q
theorem vn_op {op : Operator} {r : R2} (ho : OpR X (binaryOp op) r) (ha : VN X a σ H Pa) (hb : VN X b σ H Pb) (sa : Stb Pa) (hr : ∀ x y H1, Ex H H1 → Pa x H1 → Pb y H1 → RR r x y H1 P) : VN X (.BinOp a op b pos) σ H P :=
  vn_by (pe_op ho pe_any pe_any) fun H1 e1 Q q => ha H1 e1 _ fun x H2 e2 px => hb H2 (e1.trans e2) _ fun y H3 e3 py => hr x y H3 ((e1.trans e2).trans e3) (sa _ _ _ e3 px) py Q fun v H4 e4 p => q v H4 ((e2.trans e3).trans e4) p
theorem vn_cmp {op : CmpOp} {r : R2} (ho : OpR X (compareOp op) r) (ha : VN X a σ H Pa) (hb : VN X b σ H Pb) (sa : Stb Pa) (hr : ∀ x y H1, Ex H H1 → Pa x H1 → Pb y H1 → RR r x y H1 P) (hm : behindInMarks op b = false) : VN X (.Compare a [op] [b] pos) σ H P :=
  vn_by (pe_cmpR ho pe_any pe_any hm) fun H1 e1 Q q => ha H1 e1 _ fun x H2 e2 px => hb H2 (e1.trans e2) _ fun y H3 e3 py => hr x y H3 ((e1.trans e2).trans e3) (sa _ _ _ e3 px) py Q fun v H4 e4 p => q v H4 ((e2.trans e3).trans e4) p
theorem vt_cmp {op : CmpOp} {r : R2} {c : Bool} (ho : OpR X (compareOp op) r) (ha : VN X a σ H Pa) (hb : VN X b σ H Pb) (sa : Stb Pa) (hr : ∀ x y H1, Ex H H1 → Pa x H1 → Pb y H1 → RR r x y H1 (Is (.bl c))) (hm : behindInMarks op b = false) : VT X (.Compare a [op] [b] pos) σ H c :=
  vt_by (pt_cmpR ho pe_any pe_any hm) fun H1 e1 Q q => ha H1 e1 _ fun x H2 e2 px => hb H2 (e1.trans e2) _ fun y H3 e3 py => hr x y H3 ((e1.trans e2).trans e3) (sa _ _ _ e3 px) py _ fun v H4 e4 p => ⟨c, p, q H4 ((e2.trans e3).trans e4)⟩
theorem rr_I0 {g : Int → Int → V} {i j : Int} {x y : V} {H1 : Hp} (hx : x = .int i) (hy : y = .int j) : RR (rI0 g) x y H1 (Is (g i j)) := fun Q q => ⟨i, j, hx, hy, q _ H1 (Ex.refl H1) rfl⟩
theorem rr_I {C : Int → Int → Prop} {g : Int → Int → V} {i j : Int} {x y : V} {H1 : Hp} (hc : C i j) (hx : x = .int i) (hy : y = .int j) : RR (rI C g) x y H1 (Is (g i j)) := fun Q q => ⟨i, j, hx, hy, hc, q _ H1 (Ex.refl H1) rfl⟩
theorem ve_add {i j : Int} (ha : VE X a σ H (.int i)) (hb : VE X b σ H (.int j)) : VE X (.BinOp a .Add b pos) σ H (.int (i + j)) := vn_op op_add ha hb stb_is fun _ _ _ _ hx hy => rr_I0 hx hy
theorem ve_sub {i j : Int} (ha : VE X a σ H (.int i)) (hb : VE X b σ H (.int j)) : VE X (.BinOp a .Sub b pos) σ H (.int (i - j)) := vn_op op_sub ha hb stb_is fun _ _ _ _ hx hy => rr_I0 hx hy
theorem ve_mul {i j : Int} (hc : CMul i j) (ha : VE X a σ H (.int i)) (hb : VE X b σ H (.int j)) : VE X (.BinOp a .Mult b pos) σ H (.int (i * j)) := vn_op op_mul ha hb stb_is fun _ _ _ _ hx hy => rr_I hc hx hy
theorem ve_mod {i j : Int} (hc : 0 < j) (ha : VE X a σ H (.int i)) (hb : VE X b σ H (.int j)) : VE X (.BinOp a .Mod b pos) σ H (.int (i % j)) := vn_op op_mod ha hb stb_is fun _ _ _ _ hx hy => rr_I hc hx hy
theorem ve_div {i j : Int} (hc : 0 < j ∧ j < 1073741824) (ha : VE X a σ H (.int i)) (hb : VE X b σ H (.int j)) : VE X (.BinOp a .FloorDiv b pos) σ H (.int (i / j)) := vn_op op_fdiv ha hb stb_is fun _ _ _ _ hx hy => rr_I hc hx hy
theorem ve_neg {i : Int} (ha : VE X a σ H (.int i)) : VE X (.UnaryOp .USub a pos) σ H (.int (-i)) :=
  vn_by (pe_un un_neg pe_any) fun H1 e1 Q q => ha H1 e1 _ fun x H2 e2 hx => ⟨i, hx, q _ H2 e2 rfl⟩
theorem ve_lt {i j : Int} (ha : VE X a σ H (.int i)) (hb : VE X b σ H (.int j)) : VE X (.Compare a [.Lt] [b] pos) σ H (.bl (decide (i < j))) := vn_cmp op_lt ha hb stb_is (fun _ _ _ _ hx hy => rr_I0 hx hy) (nomark _)
theorem ve_le {i j : Int} (ha : VE X a σ H (.int i)) (hb : VE X b σ H (.int j)) : VE X (.Compare a [.LtE] [b] pos) σ H (.bl (decide (i ≤ j))) := vn_cmp op_le ha hb stb_is (fun _ _ _ _ hx hy => rr_I0 hx hy) (nomark _)
theorem ve_gt {i j : Int} (ha : VE X a σ H (.int i)) (hb : VE X b σ H (.int j)) : VE X (.Compare a [.Gt] [b] pos) σ H (.bl (decide (j < i))) := vn_cmp op_gt ha hb stb_is (fun _ _ _ _ hx hy => rr_I0 hx hy) (nomark _)
theorem ve_ge {i j : Int} (ha : VE X a σ H (.int i)) (hb : VE X b σ H (.int j)) : VE X (.Compare a [.GtE] [b] pos) σ H (.bl (decide (j ≤ i))) := vn_cmp op_ge ha hb stb_is (fun _ _ _ _ hx hy => rr_I0 hx hy) (nomark _)
theorem vt_lt {i j : Int} (ha : VE X a σ H (.int i)) (hb : VE X b σ H (.int j)) : VT X (.Compare a [.Lt] [b] pos) σ H (decide (i < j)) := vt_cmp op_lt ha hb stb_is (fun _ _ _ _ hx hy => rr_I0 (g := fun i j => .bl (decide (i < j))) hx hy) (nomark _)
theorem vt_le {i j : Int} (ha : VE X a σ H (.int i)) (hb : VE X b σ H (.int j)) : VT X (.Compare a [.LtE] [b] pos) σ H (decide (i ≤ j)) := vt_cmp op_le ha hb stb_is (fun _ _ _ _ hx hy => rr_I0 (g := fun i j => .bl (decide (i ≤ j))) hx hy) (nomark _)
theorem vt_gt {i j : Int} (ha : VE X a σ H (.int i)) (hb : VE X b σ H (.int j)) : VT X (.Compare a [.Gt] [b] pos) σ H (decide (j < i)) := vt_cmp op_gt ha hb stb_is (fun _ _ _ _ hx hy => rr_I0 (g := fun i j => .bl (decide (j < i))) hx hy) (nomark _)
theorem vt_ge {i j : Int} (ha : VE X a σ H (.int i)) (hb : VE X b σ H (.int j)) : VT X (.Compare a [.GtE] [b] pos) σ H (decide (j ≤ i)) := vt_cmp op_ge ha hb stb_is (fun _ _ _ _ hx hy => rr_I0 (g := fun i j => .bl (decide (j ≤ i))) hx hy) (nomark _)
theorem rr_eq {x y u w : V} {H1 : Hp} (h : scal u w = true) (hx : x = u) (hy : y = w) : RR rEq x y H1 (Is (.bl (decide (u = w)))) := fun Q q => by subst hx hy; exact ⟨h, q _ H1 (Ex.refl H1) rfl⟩
theorem rr_ne {x y u w : V} {H1 : Hp} (h : scal u w = true) (hx : x = u) (hy : y = w) : RR rNe x y H1 (Is (.bl (!decide (u = w)))) := fun Q q => by subst hx hy; exact ⟨h, q _ H1 (Ex.refl H1) rfl⟩
/-- == and != of isI, bools, texts -/
theorem ve_eq (ha : VE X a σ H x) (hb : VE X b σ H y) (h : scal x y = true := by rfl) : VE X (.Compare a [.Eq] [b] pos) σ H (.bl (decide (x = y))) := vn_cmp op_eq ha hb stb_is (fun _ _ _ _ hx hy => rr_eq h hx hy) (nomark _)
theorem ve_ne (ha : VE X a σ H x) (hb : VE X b σ H y) (h : scal x y = true := by rfl) : VE X (.Compare a [.NotEq] [b] pos) σ H (.bl (!decide (x = y))) := vn_cmp op_ne ha hb stb_is (fun _ _ _ _ hx hy => rr_ne h hx hy) (nomark _)
theorem vt_eq (ha : VE X a σ H x) (hb : VE X b σ H y) (h : scal x y = true := by rfl) : VT X (.Compare a [.Eq] [b] pos) σ H (decide (x = y)) := vt_cmp op_eq ha hb stb_is (fun _ _ _ _ hx hy => rr_eq h hx hy) (nomark _)
theorem vt_ne (ha : VE X a σ H x) (hb : VE X b σ H y) (h : scal x y = true := by rfl) : VT X (.Compare a [.NotEq] [b] pos) σ H (!decide (x = y)) := vt_cmp op_ne ha hb stb_is (fun _ _ _ _ hx hy => rr_ne h hx hy) (nomark _)
/-- == and != of data -/
theorem rr_eqD {K : PySem.W.Frag} {d d' : PyData} {x y : V} {H1 : Hp} (s1 : SeqAt.shaped d = true) (s2 : SeqAt.shaped d' = true) (hx : Dp K H1 x d) (hy : Dp K H1 y d') : RR (rEqD K) x y H1 (Is (.bl (PyData.eqv d d'))) := fun Q q => ⟨d, d', hx, hy, s1, s2, q _ H1 (Ex.refl H1) rfl⟩
theorem rr_neD {K : PySem.W.Frag} {d d' : PyData} {x y : V} {H1 : Hp} (s1 : SeqAt.shaped d = true) (s2 : SeqAt.shaped d' = true) (hx : Dp K H1 x d) (hy : Dp K H1 y d') : RR (rNeD K) x y H1 (Is (.bl (!PyData.eqv d d'))) := fun Q q => ⟨d, d', hx, hy, s1, s2, q _ H1 (Ex.refl H1) rfl⟩
variable {d d' : PyData}
theorem ve_eqD (hu : X.A.units + 64 < cLine) (ha : VN X a σ H (isD X.K d)) (hb : VN X b σ H (isD X.K d')) (s1 : SeqAt.shaped d = true) (s2 : SeqAt.shaped d' = true) : VE X (.Compare a [.Eq] [b] pos) σ H (.bl (PyData.eqv d d')) := vn_cmp (op_eqD hu) ha hb stb_isD (fun _ _ _ _ hx hy => rr_eqD s1 s2 hx hy) (nomark _)
theorem ve_neD (hu : X.A.units + 64 < cLine) (ha : VN X a σ H (isD X.K d)) (hb : VN X b σ H (isD X.K d')) (s1 : SeqAt.shaped d = true) (s2 : SeqAt.shaped d' = true) : VE X (.Compare a [.NotEq] [b] pos) σ H (.bl (!PyData.eqv d d')) := vn_cmp (op_neD hu) ha hb stb_isD (fun _ _ _ _ hx hy => rr_neD s1 s2 hx hy) (nomark _)
theorem vt_eqD (hu : X.A.units + 64 < cLine) (ha : VN X a σ H (isD X.K d)) (hb : VN X b σ H (isD X.K d')) (s1 : SeqAt.shaped d = true) (s2 : SeqAt.shaped d' = true) : VT X (.Compare a [.Eq] [b] pos) σ H (PyData.eqv d d') := vt_cmp (op_eqD hu) ha hb stb_isD (fun _ _ _ _ hx hy => rr_eqD s1 s2 hx hy) (nomark _)
theorem vt_neD (hu : X.A.units + 64 < cLine) (ha : VN X a σ H (isD X.K d)) (hb : VN X b σ H (isD X.K d')) (s1 : SeqAt.shaped d = true) (s2 : SeqAt.shaped d' = true) : VT X (.Compare a [.NotEq] [b] pos) σ H (!PyData.eqv d d') := vt_cmp (op_neD hu) ha hb stb_isD (fun _ _ _ _ hx hy => rr_neD s1 s2 hx hy) (nomark _)
/-- is None, is not None -/
theorem ve_isN {j pos'} (ha : VE X a σ H x) : VE X (.Compare a [.Is] [.Constant .none j pos'] pos) σ H (.bl (decide (x = .non))) := vn_cmp op_isN ha ve_non stb_is (fun _ _ H1 _ hx hy Q q => by subst hx; exact ⟨hy, q _ H1 (Ex.refl H1) rfl⟩) (nomark _)
theorem ve_notN {j pos'} (ha : VE X a σ H x) : VE X (.Compare a [.IsNot] [.Constant .none j pos'] pos) σ H (.bl (!decide (x = .non))) := vn_cmp op_notN ha ve_non stb_is (fun _ _ H1 _ hx hy Q q => by subst hx; exact ⟨hy, q _ H1 (Ex.refl H1) rfl⟩) (nomark _)
theorem vt_isN {j pos'} (ha : VE X a σ H x) : VT X (.Compare a [.Is] [.Constant .none j pos'] pos) σ H (decide (x = .non)) := vt_cmp op_isN ha ve_non stb_is (fun _ _ H1 _ hx hy Q q => by subst hx; exact ⟨hy, q _ H1 (Ex.refl H1) rfl⟩) (nomark _)
theorem vt_notN {j pos'} (ha : VE X a σ H x) : VT X (.Compare a [.IsNot] [.Constant .none j pos'] pos) σ H (!decide (x = .non)) := vt_cmp op_notN ha ve_non stb_is (fun _ _ H1 _ hx hy Q q => by subst hx; exact ⟨hy, q _ H1 (Ex.refl H1) rfl⟩) (nomark _)
/-- a value as a test -/
theorem vt_val {c : Bool} (h : VE X e σ H (.bl c)) (he : ∀ whole, isTrue e X.env whole = (do let v ← whole; standAt e.pos; holding [v] (truthy v)) := by intro _; rfl) : VT X e σ H c :=
  vt_by (pt_val pe_any he) fun H1 e1 Q q => h H1 e1 _ fun v H2 e2 hv => ⟨c, hv, q H2 e2⟩
theorem vt_not {c : Bool} (h : VT X a σ H c) : VT X (.UnaryOp .Not a pos) σ H (!c) := vt_by (pt_not pt_any) fun H1 e1 Q q => h H1 e1 _ fun H2 e2 => q H2 e2
theorem ve_not {c : Bool} (h : VE X a σ H (.bl c)) : VE X (.UnaryOp .Not a pos) σ H (.bl (!c)) := vn_by (pe_not pe_any) fun H1 e1 Q q => h H1 e1 _ fun v H2 e2 hv => ⟨c, hv, q _ H2 e2 rfl⟩
/-! and, or: as tests -/
def anyW (X : Cx) (e : Expr) : TT := fun σ H Q => ∃ t, PW X e t ∧ t σ H Q
theorem pw_any {X : Cx} {e : Expr} : PW X e (anyW X e) := ⟨fun wh pins s σ H Q I ⟨_, h, q⟩ => h.run wh pins s σ H Q I q⟩
def VW (X : Cx) (e : Expr) (σ : L2.St) (H : Hp) (c : Bool) : Prop := ∀ H1, Ex H H1 → ∀ Q : Bool → Hp → Prop, (∀ H2, Ex H1 H2 → Q c H2) → anyW X e σ H1 Q
variable {c c' : Bool} {rest : List Expr}
theorem VW.t (h : VW X e σ H c) : VT X e σ H c := vt_by (PW.pt pw_any) fun H1 e1 Q q => h H1 e1 Q q
theorem VW.up (h : VW X e σ H c) (ex : Ex H H') : VW X e σ H' c := fun H1 e1 Q q => h H1 (ex.trans e1) Q q
theorem vw_and1 (h : VT X a σ H c) : VW X (.BoolOp .And [a] pos) σ H c := fun H1 e1 Q q => ⟨_, pw_and1 pt_any, h H1 e1 Q q⟩
theorem vw_or1 (h : VT X a σ H c) : VW X (.BoolOp .Or [a] pos) σ H c := fun H1 e1 Q q => ⟨_, pw_or1 pt_any, h H1 e1 Q q⟩
theorem vw_and (h : VT X a σ H c) (h' : c = true → VW X (.BoolOp .And (b :: rest) pos) σ H c') : VW X (.BoolOp .And (a :: b :: rest) pos) σ H (c && c') := fun H1 e1 Q q => ⟨_, pw_and pt_any pw_any, h H1 e1 _ fun H2 e2 => by
  cases c with
  | true => exact h' rfl H2 (e1.trans e2) Q fun H3 e3 => q H3 (e2.trans e3)
  | false => exact q H2 e2⟩
theorem vw_or (h : VT X a σ H c) (h' : c = false → VW X (.BoolOp .Or (b :: rest) pos) σ H c') : VW X (.BoolOp .Or (a :: b :: rest) pos) σ H (c || c') := fun H1 e1 Q q => ⟨_, pw_or pt_any pw_any, h H1 e1 _ fun H2 e2 => by
  cases c with
  | false => exact h' rfl H2 (e1.trans e2) Q fun H3 e3 => q H3 (e2.trans e3)
  | true => exact q H2 e2⟩
/-! as values -/
theorem ve_one {op} (h : VN X a σ H P) : VN X (.BoolOp op [a] pos) σ H P := vn_by (pe_one pe_any) h
theorem ve_and (h : VE X a σ H (.bl c)) (h' : c = true → VE X (.BoolOp .And (b :: rest) pos) σ H (.bl c')) : VE X (.BoolOp .And (a :: b :: rest) pos) σ H (.bl (c && c')) := vn_by (pe_and pe_any pe_any) fun H1 e1 Q q => h H1 e1 _ fun v H2 e2 hv => ⟨c, hv, by
  cases c with
  | true => exact h' rfl H2 (e1.trans e2) _ fun v H3 e3 p => q _ H3 (e2.trans e3) p
  | false => exact q _ H2 e2 rfl⟩
theorem ve_or (h : VE X a σ H (.bl c)) (h' : c = false → VE X (.BoolOp .Or (b :: rest) pos) σ H (.bl c')) : VE X (.BoolOp .Or (a :: b :: rest) pos) σ H (.bl (c || c')) := vn_by (pe_or pe_any pe_any) fun H1 e1 Q q => h H1 e1 _ fun v H2 e2 hv => ⟨c, hv, by
  cases c with
  | false => exact h' rfl H2 (e1.trans e2) _ fun v H3 e3 p => q _ H3 (e2.trans e3) p
  | true => exact q _ H2 e2 rfl⟩
theorem vn_if {t : Expr} (h : VT X t σ H c) (h1 : c = true → VN X a σ H P) (h2 : c = false → VN X b σ H P) : VN X (.IfExp t a b pos) σ H P := vn_by (pe_ifExp pt_any pe_any pe_any) fun H1 e1 Q q => h H1 e1 _ fun H2 e2 => by
  cases c with
  | true => exact h1 rfl H2 (e1.trans e2) Q fun v H3 e3 p => q v H3 (e2.trans e3) p
  | false => exact h2 rfl H2 (e1.trans e2) Q fun v H3 e3 p => q v H3 (e2.trans e3) p

/-! ### arguments, displays, calls -/
theorem va_nil : VA X [] σ H fun vs _ => vs = [] := va_by pa_nil fun H1 _ _ q => q [] H1 (Ex.refl H1) rfl
theorem va_cons {PA' : List V → Hp → Prop} (h : VN X e σ H P) (st : Stb P) (hr : VA X es σ H PA') (hs : starEach (e :: es) X.env = (false, eval e X.env) :: starEach es X.env := by rfl) : VA X (e :: es) σ H fun vs H' => ∃ v r, vs = v :: r ∧ P v H' ∧ PA' r H' :=
  va_by (pa_cons pe_any pa_any hs) fun H1 e1 Q q => h H1 e1 _ fun v H2 e2 p => hr H2 (e1.trans e2) _ fun r H3 e3 p' => q _ H3 (e2.trans e3) ⟨v, r, rfl, st _ _ _ e3 p, p'⟩
theorem VA.imp {PA' PA'' : List V → Hp → Prop} (h : VA X es σ H PA') (i : ∀ v H', Ex H H' → PA' v H' → PA'' v H') : VA X es σ H PA'' := fun H1 e1 Q q => h H1 e1 Q fun v H2 e2 p => q v H2 e2 (i v H2 (e1.trans e2) p)
/-- arguments of one, two, three, four values -/
def A1 (P : PV) : List V → Hp → Prop := fun vs H => ∃ v, vs = [v] ∧ P v H
def A2 (P Q : PV) : List V → Hp → Prop := fun vs H => ∃ v w, vs = [v, w] ∧ P v H ∧ Q w H
def A3 (P Q R : PV) : List V → Hp → Prop := fun vs H => ∃ v w z, vs = [v, w, z] ∧ P v H ∧ Q w H ∧ R z H
def A4 (P Q R S : PV) : List V → Hp → Prop := fun vs H => ∃ v w z u, vs = [v, w, z, u] ∧ P v H ∧ Q w H ∧ R z H ∧ S u H
variable {e1 e2 e3 e4 : Expr} {P1 P2 P3 P4 : PV}
theorem va1 (h1 : VN X e1 σ H P1) (s1 : Stb P1) (hs : starEach [e1] X.env = (false, eval e1 X.env) :: starEach [] X.env := by rfl) : VA X [e1] σ H (A1 P1) := (va_cons h1 s1 va_nil hs).imp fun v H' _ ⟨x, r, e, p, e'⟩ => ⟨x, by rw [e, e'], p⟩
theorem va2 (h1 : VN X e1 σ H P1) (h2 : VN X e2 σ H P2) (s1 : Stb P1) (s2 : Stb P2) (hs : starEach [e1, e2] X.env = (false, eval e1 X.env) :: starEach [e2] X.env := by rfl) (hs2 : starEach [e2] X.env = (false, eval e2 X.env) :: starEach [] X.env := by rfl) : VA X [e1, e2] σ H (A2 P1 P2) :=
  (va_cons h1 s1 (va1 h2 s2 hs2) hs).imp fun v H' _ ⟨x, r, e, p, y, e', p'⟩ => ⟨x, y, by rw [e, e'], p, p'⟩
theorem va3 (h1 : VN X e1 σ H P1) (h2 : VN X e2 σ H P2) (h3 : VN X e3 σ H P3) (s1 : Stb P1) (s2 : Stb P2) (s3 : Stb P3) (hs : starEach [e1, e2, e3] X.env = (false, eval e1 X.env) :: starEach [e2, e3] X.env := by rfl) (hs2 : starEach [e2, e3] X.env = (false, eval e2 X.env) :: starEach [e3] X.env := by rfl) (hs3 : starEach [e3] X.env = (false, eval e3 X.env) :: starEach [] X.env := by rfl) : VA X [e1, e2, e3] σ H (A3 P1 P2 P3) :=
  (va_cons h1 s1 (va2 h2 h3 s2 s3 hs2 hs3) hs).imp fun v H' _ ⟨x, r, e, p, y, z, e', p', p''⟩ => ⟨x, y, z, by rw [e, e'], p, p', p''⟩
theorem va4 (h1 : VN X e1 σ H P1) (h2 : VN X e2 σ H P2) (h3 : VN X e3 σ H P3) (h4 : VN X e4 σ H P4) (s1 : Stb P1) (s2 : Stb P2) (s3 : Stb P3) (s4 : Stb P4) (hs : starEach [e1, e2, e3, e4] X.env = (false, eval e1 X.env) :: starEach [e2, e3, e4] X.env := by rfl) (hs2 : starEach [e2, e3, e4] X.env = (false, eval e2 X.env) :: starEach [e3, e4] X.env := by rfl) (hs3 : starEach [e3, e4] X.env = (false, eval e3 X.env) :: starEach [e4] X.env := by rfl) (hs4 : starEach [e4] X.env = (false, eval e4 X.env) :: starEach [] X.env := by rfl) : VA X [e1, e2, e3, e4] σ H (A4 P1 P2 P3 P4) :=
  (va_cons h1 s1 (va3 h2 h3 h4 s2 s3 s4 hs2 hs3 hs4) hs).imp fun v H' _ ⟨x, r, e, p, y, z, u, e', p', p'', p3⟩ => ⟨x, y, z, u, by rw [e, e'], p, p', p'', p3⟩
/-- a call by values -/
def RA (r : List V → Hp → VK → Prop) (vs : List V) (H : Hp) (P : PV) : Prop := ∀ Q : VK, (∀ v H2, Ex H H2 → P v H2 → Q v H2) → r vs H Q
variable {n : Str} {p : Pos} {PA' : List V → Hp → Prop}
theorem vn_callB {id : String} {r : List V → Hp → VK → Prop} (hc : CallR X (.builtin id) r) (hm : X.mg n = none) (hv : bootBuiltins n = some (.builtin id)) (ha : VA X (e :: es) σ H PA') (hr : ∀ vs H1, Ex H H1 → PA' vs H1 → RA r vs H1 P)
    (hg : Gl X n := by rfl) (hn : n ≠ "__name__" := by decide) (hdb : (n == ("__debug__" : Str)) = false := by decide) (hs : starEach (e :: es) X.env = (false, eval e X.env) :: starEach es X.env := by rfl) (hpl : (backTo pos (starEach es X.env)).any (·.1) = false := by rfl) :
    VN X (.Call (.Name n p) (e :: es) [] pos) σ H P := vn_by (pe_callB hc hg hm hv pa_any hn hdb hs hpl) fun H1 e1 Q q => ha H1 e1 _ fun vs H2 e2 pv => hr vs H2 (e1.trans e2) pv Q fun v H3 e3 p => q v H3 (e2.trans e3) p
theorem vn_callTy {T : String} {r : List V → Hp → VK → Prop} (hc : CallR X (.type T) r) (hm : X.mg n = none) (hv : bootBuiltins n = some (.type T)) (ha : VA X (e :: es) σ H PA') (hr : ∀ vs H1, Ex H H1 → PA' vs H1 → RA r vs H1 P)
    (hg : Gl X n := by rfl) (hn : n ≠ "__name__" := by decide) (hdb : (n == ("__debug__" : Str)) = false := by decide) (hs : starEach (e :: es) X.env = (false, eval e X.env) :: starEach es X.env := by rfl) (hpl : (backTo pos (starEach es X.env)).any (·.1) = false := by rfl) :
    VN X (.Call (.Name n p) (e :: es) [] pos) σ H P := vn_by (pe_callTy hc hg hm hv pa_any hn hdb hs hpl) fun H1 e1 Q q => ha H1 e1 _ fun vs H2 e2 pv => hr vs H2 (e1.trans e2) pv Q fun v H3 e3 p => q v H3 (e2.trans e3) p
/-- a new list, a new tuple -/
theorem vn_lst (ha : VA X es σ H PA') (st : StbA PA') (hl : ∀ vs H', PA' vs H' → vs.length ≤ 1000) : VN X (.List es pos) σ H fun v H' => ∃ p xs, v = .ref p ∧ H p = none ∧ H' p = some (.lst xs) ∧ PA' xs H' :=
  vn_by (pe_lst pa_any) fun H1 e1 Q q => ha H1 e1 _ fun vs H2 e2 pv => ⟨Nat.le_of_lt (small1000 (hl vs H2 pv)), fun l hl => q _ _ (e2.trans (Ex.new hl)) ⟨l, vs, rfl, fresh_back (e1.trans e2) hl, upd_same, st _ _ _ (Ex.new hl) pv⟩⟩
theorem vn_tup {k} (ha : VA X es σ H PA') (st : StbA PA') (hl : ∀ vs H', PA' vs H' → vs.length ≤ 1000) : VN X (.Tuple es k pos) σ H fun v H' => ∃ p xs, v = .ref p ∧ H p = none ∧ H' p = some (.tup xs) ∧ PA' xs H' :=
  vn_by (pe_tup pa_any) fun H1 e1 Q q => ha H1 e1 _ fun vs H2 e2 pv => ⟨Nat.le_of_lt (small1000 (hl vs H2 pv)), fun l hl => q _ _ (e2.trans (Ex.new hl)) ⟨l, vs, rfl, fresh_back (e1.trans e2) hl, upd_same, st _ _ _ (Ex.new hl) pv⟩⟩
theorem vn_nil : VN X (.List [] pos) σ H (newL H []) := (vn_lst va_nil (fun _ _ _ _ h => h) fun vs _ h => by rw [h]; exact Nat.zero_le _).imp fun v H' _ ⟨p, xs, h1, h2, h3, h4⟩ => ⟨p, h1, h2, by rw [← h4]; exact h3⟩
/-- xs[i], t[i] -/
theorem vn_ixL {i : Int} {R : List V → Hp → Prop} (ha : VN X a σ H fun v H' => ∃ p xs, v = .ref p ∧ SqL X.K H' p xs ∧ R xs H') (hb : VE X b σ H (.int i)) (sR : StbA R) (h : ∀ xs H', Ex H H' → R xs H' → ∃ v, atI xs i = some v ∧ P v H') (hs : PlainIx b := by exact fun _ _ => rfl) : VN X (.Subscript a b pos) σ H P :=
  vn_by (pe_ix ix_list pe_any pe_any hs) fun H1 e1 Q q => ha H1 e1 _ fun x H2 e2 ⟨p, xs, ex, hx, hr⟩ => hb H2 (e1.trans e2) _ fun y H3 e3 ey => by
    obtain ⟨v, hv, pv⟩ := h xs H3 ((e1.trans e2).trans e3) (sR _ _ _ e3 hr)
    exact ⟨p, xs, i, v, ex, ey, ex_l e3 hx, hv, q v H3 (e2.trans e3) pv⟩
theorem vn_ixT {i : Int} {R : List V → Hp → Prop} (ha : VN X a σ H fun v H' => ∃ p xs, v = .ref p ∧ SqT X.K H' p xs ∧ R xs H') (hb : VE X b σ H (.int i)) (sR : StbA R) (h : ∀ xs H', Ex H H' → R xs H' → ∃ v, atI xs i = some v ∧ P v H') (hs : PlainIx b := by exact fun _ _ => rfl) : VN X (.Subscript a b pos) σ H P :=
  vn_by (pe_ix ix_tup pe_any pe_any hs) fun H1 e1 Q q => ha H1 e1 _ fun x H2 e2 ⟨p, xs, ex, hx, hr⟩ => hb H2 (e1.trans e2) _ fun y H3 e3 ey => by
    obtain ⟨v, hv, pv⟩ := h xs H3 ((e1.trans e2).trans e3) (sR _ _ _ e3 hr)
    exact ⟨p, xs, i, v, ex, ey, ex_t e3 hx, hv, q v H3 (e2.trans e3) pv⟩
/-- of a list that is known -/
theorem ve_ixL {i : Int} {xs : List V} (ha : VN X a σ H (isL X.K xs)) (hb : VE X b σ H (.int i)) (h : atI xs i = some v) (hs : PlainIx b := by exact fun _ _ => rfl) : VE X (.Subscript a b pos) σ H v :=
  vn_ixL (R := fun ys _ => ys = xs) (ha.imp fun v H' _ ⟨p, e, h⟩ => ⟨p, xs, e, h, rfl⟩) hb (fun _ _ _ _ h => h) (fun ys H' _ e => ⟨v, by rw [e]; exact h, rfl⟩) hs
theorem ve_ixT {i : Int} {xs : List V} {t : Addr} (ha : VE X a σ H (.ref t)) (ht : SqT X.K H t xs) (hb : VE X b σ H (.int i)) (h : atI xs i = some v) (hs : PlainIx b := by exact fun _ _ => rfl) : VE X (.Subscript a b pos) σ H v :=
  vn_ixT (R := fun ys _ => ys = xs) (ha.imp fun v H' e1 e => ⟨t, xs, e, ex_t e1 ht, rfl⟩) hb (fun _ _ _ _ h => h) (fun ys H' _ e => ⟨v, by rw [e]; exact h, rfl⟩) hs
/-- slices of lists -/
def anyO (X : Cx) (o : Option Expr) : TO := fun σ H Q => ∃ t, PO X o t ∧ t σ H Q
theorem vn_sl {lo hi : Option Expr} {p2 : Pos} {l h : Option Int} {xs : List V} {tl th : TO} (ha : VN X a σ H (isL X.K xs)) (pl : PO X lo tl) (ph : PO X hi th) (hl : EvO tl σ H l) (hh : EvO th σ H h) : VN X (.Subscript a (.Slice lo hi none p2) pos) σ H (newL H (cutV xs l h)) :=
  vn_by (pe_slice sl_list pe_any pl ph) fun H1 e1 Q q => ha H1 e1 _ fun x H2 e2 ⟨p, ex, hx⟩ => hl H2 (e1.trans e2) _ fun H3 e3 => hh H3 ((e1.trans e2).trans e3) _ fun H4 e4 =>
    ⟨p, xs, ex, ex_l (e3.trans e4) hx, fun l hl => q _ _ (((e2.trans e3).trans e4).trans (Ex.new hl)) ⟨l, rfl, fresh_back (((e1.trans e2).trans e3).trans e4) hl, upd_same⟩⟩
theorem VE.ev {i : Int} (h : VE X e σ H (.int i)) : EvO (tPart (anyE X e)) σ H (some i) := fun H1 e1 Q q => h H1 e1 _ fun v H2 e2 hv => ⟨i, hv, q H2 e2⟩
/-- xs + ys, of tracked lists -/
def trkL (xs : List V) : PV := fun v H => ∃ p, v = .ref p ∧ H p = some (.lst xs)
theorem stb_trk {xs : List V} : Stb (trkL xs) := fun _ _ _ e ⟨p, h1, h2⟩ => ⟨p, h1, e _ _ h2⟩
theorem newL.t {H0 H : Hp} {xs : List V} {v : V} (h : newL H0 xs v H) : trkL xs v H := by
  obtain ⟨p, h1, _, h3⟩ := h
  exact ⟨p, h1, h3⟩
theorem trkL.l {K : PySem.W.Frag} {H : Hp} {xs : List V} {v : V} (h : trkL xs v H) : isL K xs v H := by
  obtain ⟨p, h1, h3⟩ := h
  exact ⟨p, h1, sq_of h3⟩
theorem vn_cat {xs ys : List V} (ha : VN X a σ H (trkL xs)) (hb : VN X b σ H (trkL ys)) (hl : xs.length + ys.length ≤ 100000) : VN X (.BinOp a .Add b pos) σ H (newL H (xs ++ ys)) :=
  vn_op op_cat ha hb stb_trk fun x y H1 e1 ⟨p, ex, hp⟩ ⟨q, ey, hq⟩ Q k => ⟨p, q, xs, ys, ex, ey, hp, hq, sz_of hl, fun l hl => k _ _ (Ex.new hl) ⟨l, rfl, fresh_back e1 hl, upd_same⟩⟩
end
end W47
namespace W47
open PySem PySem.Spec PyProof.Rows L2 Evl

/-! ### statements -/
section
variable {X : Cx} {σ : L2.St} {H H' : Hp} {a b e : Expr} {es : List Expr} {P P' Pa Pb : PV} {pos p : Pos} {x y v : V} {st : Stmt} {rest body orelse : List Stmt} {D : Ends} {n : Str} {c : Bool}
theorem vs_nil (h : D.nx σ H) : VS X [] D σ H := ⟨tNext, pss_nil, h⟩
theorem vs_cons {t : TS} (h1 : PS X st t) (h : t { D with nx := fun σ' H' => VS X rest D σ' H' } σ H) : VS X (st :: rest) D σ H := ⟨tSeq t (anyS X rest), pss_cons h1 pss_any, h⟩
/-- x = e -/
theorem vs_set {i : Nat} {p' : Pos} (hN : X.N.Nodup) (he : VN X e σ H P) (k : ∀ v H1, Ex H H1 → P v H1 → VS X rest D (σ.set i (some v)) H1) (hi : X.N[i]? = some n := by rfl) (hx : Loc X.env.scope n := by first | exact Or.inl rfl | exact Or.inr rfl)
    (hs : swapsWith e (some (.Name n p')) pos.line X.env = pure false := by rfl) (hf : X.fn n = true ∨ X.env.scope.names.lookup n = some .local := by first | exact .inl rfl | exact .inr rfl) : VS X (.Assign [.Name n p'] e pos :: rest) D σ H :=
  vs_cons (ps_set hN hi hx pe_any hs hf) (he.here fun v H1 e1 p => k v H1 e1 p)
theorem vs_ret (he : VN X e σ H P) (k : ∀ v H1, Ex H H1 → P v H1 → D.rt v H1) : VS X (.Return (some e) pos :: rest) D σ H := vs_cons (ps_ret pe_any) (he.here k)
theorem vs_expr (he : VN X e σ H P) (k : ∀ v H1, Ex H H1 → P v H1 → VS X rest D σ H1) (hs : swapsWith e none pos.line X.env = pure false := by rfl) : VS X (.Expr e pos :: rest) D σ H := vs_cons (ps_expr pe_any hs) (he.here k)
theorem vs_if (hc : VT X a σ H c) (h1 : c = true → ∀ H1, Ex H H1 → VS X body { D with nx := fun σ' H' => VS X rest D σ' H' } σ H1) (h2 : c = false → ∀ H1, Ex H H1 → VS X orelse { D with nx := fun σ' H' => VS X rest D σ' H' } σ H1) : VS X (.If a body orelse pos :: rest) D σ H :=
  vs_cons (ps_if pt_any pss_any pss_any) (hc.here fun H1 e1 => by
    cases c with
    | true => exact h1 rfl H1 e1
    | false => exact h2 rfl H1 e1)
/-- an if without else that is not taken, is taken -/
theorem vs_no (hc : VT X a σ H c) (e0 : c = false) (k : ∀ H1, Ex H H1 → VS X rest D σ H1) : VS X (.If a body [] pos :: rest) D σ H := vs_if hc (fun h => by rw [e0] at h; cases h) fun _ H1 e1 => vs_nil (k H1 e1)
theorem vs_yes (hc : VT X a σ H c) (e0 : c = true) (k : ∀ H1, Ex H H1 → VS X body { D with nx := fun σ' H' => VS X rest D σ' H' } σ H1) : VS X (.If a body orelse pos :: rest) D σ H := vs_if hc (fun _ H1 e1 => k H1 e1) fun h => by rw [e0] at h; cases h
theorem vs_else (hc : VT X a σ H c) (e0 : c = false) (k : ∀ H1, Ex H H1 → VS X orelse { D with nx := fun σ' H' => VS X rest D σ' H' } σ H1) : VS X (.If a body orelse pos :: rest) D σ H := vs_if hc (fun h => by rw [e0] at h; cases h) fun _ H1 e1 => k H1 e1
/-- if a: return e -/
theorem vs_ifret {p' : Pos} (hc : VT X a σ H c) (he : c = true → VN X e σ H P) (k1 : c = true → ∀ v H1, Ex H H1 → P v H1 → D.rt v H1) (k : c = false → ∀ H1, Ex H H1 → VS X rest D σ H1) : VS X (.If a [.Return (some e) p'] [] pos :: rest) D σ H :=
  vs_if hc (fun h H1 e1 => vs_ret ((he h).up e1) fun v H2 e2 p => k1 h v H2 (e1.trans e2) p) fun h H1 e1 => vs_nil (k h H1 e1)
/-- a, b = x, y (names) -/
theorem vs_par {i j : Nat} {n m : Str} {px py pt pt2 : Pos} {kt k2} {P1 P2 : PV} (hN : X.N.Nodup) (ha : VN X a σ H P1) (hb : VN X b σ H P2) (s1 : Stb P1) (s2 : Stb P2) (k : ∀ v w H1, Ex H H1 → P1 v H1 → P2 w H1 → VS X rest D ((σ.set i (some v)).set j (some w)) H1)
    (hij : i ≠ j := by decide) (hc : X.calm = true := by rfl) (hi : X.N[i]? = some n := by rfl) (hj : X.N[j]? = some m := by rfl) (hx : X.env.scope.names.lookup n = some .local := by rfl) (hy : X.env.scope.names.lookup m = some .local := by rfl)
    (hw : swappedStores [.Tuple [.Name n px, .Name m py] kt pt] (.Tuple [a, b] k2 pt2) X.env = pure (some [n, m]) := by rfl)
    (hs : swapsWithSole [.Tuple [.Name n px, .Name m py] kt pt] (.Tuple [a, b] k2 pt2) pos.line X.env = pure false := by rfl)
    (hst : starEach [a, b] X.env = (false, eval a X.env) :: starEach [b] X.env := by rfl) (hst2 : starEach [b] X.env = (false, eval b X.env) :: starEach [] X.env := by rfl) :
    VS X (.Assign [.Tuple [.Name n px, .Name m py] kt pt] (.Tuple [a, b] k2 pt2) pos :: rest) D σ H :=
  vs_cons (ps_par hc hN hi hj hij hx hy pa_any hw hs) ((va2 ha hb s1 s2 hst hst2).here fun vs H1 e1 ⟨v, w, e, p1, p2⟩ => ⟨v, w, e, k v w H1 e1 p1 p2⟩)
/-- o[i] = e; the object is tracked -/
theorem vs_setL {o i : Expr} {l : Addr} {xs : List V} {z : Int} {j : Nat} {tpos : Pos} (hl : H l = some (.lst xs)) (he : VN X e σ H P) (ho : VE X o σ H (.ref l)) (hi : VE X i σ H (.int z)) (hj : ixN xs.length z = some j) (k : ∀ v H1, Ex H H1 → P v H1 → VS X rest D σ (upd H1 l (.lst (xs.set j v)))) (sP : Stb P)
    (ha : ∀ v, assign (.Subscript o i tpos) X.env v = (do
      let ov ← holding [v] (eval o X.env)
      let iv ← holding [v, ov] (eval i X.env)
      standAt tpos
      holding [v, ov, iv] (setItem ov iv v)
      release [v, ov, iv] []) := by intro _; rfl) (hs : swapsWithSole [.Subscript o i tpos] e pos.line X.env = pure false := by rfl) (hw : swappedStores [.Subscript o i tpos] e X.env = pure none := by rfl)
    (h1 : (assignEach [.Subscript o i tpos] X.env).map (·.2) = [assign (.Subscript o i tpos) X.env] := by rfl) : VS X (.Assign [.Subscript o i tpos] e pos :: rest) D σ H :=
  vs_cons (ps_asg pe_any (pg_sub pe_any pe_any set_list ha) hs hw h1) (he.here fun v H1 e1 pv => ho H1 e1 _ fun ov H2 e2 eo => hi H2 (e1.trans e2) _ fun iv H3 e3 ei =>
    ⟨l, xs, z, j, eo, ei, ((e1.trans e2).trans e3) l _ hl, hj, k v H3 ((e1.trans e2).trans e3) (sP _ _ _ (e2.trans e3) pv)⟩)
/-- xs.append(e) -/
theorem vn_app {o : Expr} {l : Addr} {xs : List V} {apos : Pos} (hl : H l = some (.lst xs)) (ho : VE X o σ H (.ref l)) (he : VN X e σ H P) (sP : Stb P) (hz : xs.length < 100000) {Q : V → Hp → Prop} (k : ∀ v H1, Ex H H1 → P v H1 → Q .non (upd H1 l (.lst (xs ++ [v]))))
    (hbase : attributeBase o "append" X.env (eval o X.env) = eval o X.env := by rfl)
    (hfew : ((backTo pos (starEach [e] X.env)).all (fun x => !x.1) && (backToKw pos (keywordEach [] X.env)).all (fun x => x.1.isSome) && decide (([e] : List Expr).length + ([] : List Keyword).length + (if ([] : List Keyword).isEmpty then 0 else 1) < 30)) = true := by rfl)
    (hline : (apos.endLine == pos.line) = true := by rfl) (hst : starEach [e] X.env = (false, eval e X.env) :: starEach [] X.env := by rfl) (hpl : (backTo pos (starEach [] X.env)).any (·.1) = false := by rfl) : anyE X (.Call (.Attribute o "append" apos) [e] [] pos) σ H Q :=
  ⟨_, pe_bm PySem.F.plainAttrs_list PySem.F.slot_list_append PySem.F.type_list_append mt_append pe_any pa_any hbase hfew hline hst hpl, ho.here fun ov H1 e1 eo => by
    have eo' : ov = .ref l := eo
    subst eo'
    exact ⟨Or.inl ⟨rfl, xs, sq_of (e1 l _ hl)⟩, ((va1 he sP hst).up e1).here fun vs H2 e2 ⟨v, ev, pv⟩ => ⟨l, xs, v, rfl, ev, e2 l _ (e1 l _ hl), sz_lt hz, k v H2 (e1.trans e2) pv⟩⟩⟩
theorem vs_app {o : Expr} {l : Addr} {xs : List V} {apos p' : Pos} (hl : H l = some (.lst xs)) (ho : VE X o σ H (.ref l)) (he : VN X e σ H P) (sP : Stb P) (hz : xs.length < 100000) (k : ∀ v H1, Ex H H1 → P v H1 → VS X rest D σ (upd H1 l (.lst (xs ++ [v]))))
    (hbase : attributeBase o "append" X.env (eval o X.env) = eval o X.env := by rfl)
    (hfew : ((backTo pos (starEach [e] X.env)).all (fun x => !x.1) && (backToKw pos (keywordEach [] X.env)).all (fun x => x.1.isSome) && decide (([e] : List Expr).length + ([] : List Keyword).length + (if ([] : List Keyword).isEmpty then 0 else 1) < 30)) = true := by rfl)
    (hline : (apos.endLine == pos.line) = true := by rfl) (hst : starEach [e] X.env = (false, eval e X.env) :: starEach [] X.env := by rfl) (hpl : (backTo pos (starEach [] X.env)).any (·.1) = false := by rfl)
    (hs : swapsWith (.Call (.Attribute o "append" apos) [e] [] pos) none p'.line X.env = pure false := by rfl) : VS X (.Expr (.Call (.Attribute o "append" apos) [e] [] pos) p' :: rest) D σ H :=
  vs_cons (ps_expr pe_any hs) (vn_app (Q := fun _ H1 => VS X rest D σ H1) hl ho he sP hz k hbase hfew hline hst hpl)

/-! ### loops -/
/-- for x in xs (a list that stands still) -/
theorem vs_forL {a : Addr} {xs : List V} {l : Expr} {i : Nat} {p' : Pos} (hN : X.N.Nodup) (h : VE X l σ H (.ref a)) (hx : SqL X.K H a xs) (Pv : Nat → L2.St → Hp → Prop) (h0 : ∀ H1, Ex H H1 → Pv 0 σ H1) (hl : ∀ j σ' H', j ≤ xs.length → Pv j σ' H' → SqL X.K H' a xs)
    (hs : ∀ j x σ' H', xs[j]? = some x → Pv j σ' H' → VS X body { D with nx := Pv (j + 1), ct := Pv (j + 1), bk := fun σ' H' => VS X rest D σ' H' } (σ'.set i (some x)) H') (hd : ∀ σ' H', Pv xs.length σ' H' → VS X rest D σ' H')
    (hp : PassesOwn (model X.prog X.w) X.A X.env X.xe := by exact PassesOwn.never) (hc : X.calm = true := by rfl) (hi : X.N[i]? = some n := by rfl) (hxl : Loc X.env.scope n := by first | exact Or.inl rfl | exact Or.inr rfl) (hf : X.fn n = true ∨ X.env.scope.names.lookup n = some .local := by first | exact .inl rfl | exact .inr rfl)
    (hit : ∀ x, foldedSetIterable l X.env x = pure x := by intro _; rfl) : VS X (.For (.Name n p') l body [] pos :: rest) D σ H :=
  vs_cons (ps_for hp hc (pi_list pe_any) (pg_name hN hi hxl hf) pss_any hit) (h.here fun v H1 e1 ev => ⟨a, ev, ⟨xs, ex_l e1 hx⟩, for_list Pv (h0 H1 e1) hl hs hd⟩)
/-- .. a list just made -/
theorem vs_forN {l : Expr} {i : Nat} {p' : Pos} (hN : X.N.Nodup) (h : VN X l σ H P) (Pv : V → List V → Nat → L2.St → Hp → Prop) (h0 : ∀ v H1, Ex H H1 → P v H1 → ∃ a xs, v = .ref a ∧ SqL X.K H1 a xs ∧ Pv v xs 0 σ H1) (hl : ∀ a xs j σ' H', j ≤ xs.length → Pv (.ref a) xs j σ' H' → SqL X.K H' a xs)
    (hs : ∀ v xs j x σ' H', xs[j]? = some x → Pv v xs j σ' H' → VS X body { D with nx := Pv v xs (j + 1), ct := Pv v xs (j + 1), bk := fun σ' H' => VS X rest D σ' H' } (σ'.set i (some x)) H') (hd : ∀ v xs σ' H', Pv v xs xs.length σ' H' → VS X rest D σ' H')
    (hp : PassesOwn (model X.prog X.w) X.A X.env X.xe := by exact PassesOwn.never) (hc : X.calm = true := by rfl) (hi : X.N[i]? = some n := by rfl) (hxl : Loc X.env.scope n := by first | exact Or.inl rfl | exact Or.inr rfl) (hf : X.fn n = true ∨ X.env.scope.names.lookup n = some .local := by first | exact .inl rfl | exact .inr rfl)
    (hit : ∀ x, foldedSetIterable l X.env x = pure x := by intro _; rfl) : VS X (.For (.Name n p') l body [] pos :: rest) D σ H :=
  vs_cons (ps_for hp hc (pi_list pe_any) (pg_name hN hi hxl hf) pss_any hit) (h.here fun v H1 e1 pv => by
    obtain ⟨a, xs, rfl, hx, p0⟩ := h0 v H1 e1 pv
    exact ⟨a, rfl, ⟨xs, hx⟩, for_list (xs := xs) (Pv (.ref a) xs) p0 (hl a xs) (hs (.ref a) xs) (hd (.ref a) xs)⟩)
/-- for i in range(n), range(lo, n) -/
theorem vs_forR1 {i : Nat} {z : Int} {p' pr pc : Pos} (hN : X.N.Nodup) (hm : X.mg "range" = none) (h : VE X a σ H (.int z)) (hz : z ≤ 100000 ∧ -100000 ≤ z) (Pv : Nat → L2.St → Hp → Prop) (h0 : ∀ H1, Ex H H1 → Pv 0 σ H1)
    (hs : ∀ (j : Nat) σ' H', (j : Int) < z → Pv j σ' H' → VS X body { D with nx := Pv (j + 1), ct := Pv (j + 1), bk := fun σ' H' => VS X rest D σ' H' } (σ'.set i (some (.int (j : Int)))) H') (hd : ∀ σ' H', Pv z.toNat σ' H' → VS X rest D σ' H')
    (hp : PassesOwn (model X.prog X.w) X.A X.env X.xe := by exact PassesOwn.never) (hc : X.calm = true := by rfl) (hi : X.N[i]? = some n := by rfl) (hxl : Loc X.env.scope n := by first | exact Or.inl rfl | exact Or.inr rfl) (hf : X.fn n = true ∨ X.env.scope.names.lookup n = some .local := by first | exact .inl rfl | exact .inr rfl)
    (hg : Gl X "range" := by rfl) (hst : starEach [a] X.env = [(false, eval a X.env)] := by rfl) (hit : ∀ x, foldedSetIterable (.Call (.Name "range" pr) [a] [] pc) X.env x = pure x := by intro _; rfl) : VS X (.For (.Name n p') (.Call (.Name "range" pr) [a] [] pc) body [] pos :: rest) D σ H :=
  vs_cons (ps_for hp hc (pi_range1 hg hm pa_any hst) (pg_name hN hi hxl hf) pss_any hit) ((va1 h stb_is hst).here fun vs H1 e1 ⟨v, e, ev⟩ => ⟨z, by rw [e, show v = .int z from ev], by omega, by omega, for_range (lo := 0) (n := z.toNat) Pv (h0 H1 e1) (fun j σ' H' hj q => by
    have e0 : (0 : Int) + (j : Int) = (j : Int) := Int.zero_add _
    show VS X body { D with nx := Pv (j + 1), ct := Pv (j + 1), bk := fun σ' H' => VS X rest D σ' H' } (σ'.set i (some (.int ((0 : Int) + (j : Int))))) H'
    rw [e0]
    exact hs j σ' H' (by omega) q) hd⟩)
theorem vs_forR2 {i : Nat} {lo z : Int} {p' pr pc : Pos} (hN : X.N.Nodup) (hm : X.mg "range" = none) (h1 : VE X a σ H (.int lo)) (h : VE X b σ H (.int z)) (hz : z ≤ 100000 ∧ -100000 ≤ z ∧ lo ≤ 100000 ∧ -100000 ≤ lo) (Pv : Nat → L2.St → Hp → Prop) (h0 : ∀ H1, Ex H H1 → Pv 0 σ H1)
    (hs : ∀ (j : Nat) σ' H', lo + (j : Int) < z → Pv j σ' H' → VS X body { D with nx := Pv (j + 1), ct := Pv (j + 1), bk := fun σ' H' => VS X rest D σ' H' } (σ'.set i (some (.int (lo + (j : Int))))) H') (hd : ∀ σ' H', Pv (z - lo).toNat σ' H' → VS X rest D σ' H')
    (hp : PassesOwn (model X.prog X.w) X.A X.env X.xe := by exact PassesOwn.never) (hc : X.calm = true := by rfl) (hi : X.N[i]? = some n := by rfl) (hxl : Loc X.env.scope n := by first | exact Or.inl rfl | exact Or.inr rfl) (hf : X.fn n = true ∨ X.env.scope.names.lookup n = some .local := by first | exact .inl rfl | exact .inr rfl)
    (hg : Gl X "range" := by rfl) (hst : starEach [a, b] X.env = [(false, eval a X.env), (false, eval b X.env)] := by rfl) (hst2 : starEach [b] X.env = [(false, eval b X.env)] := by rfl) (hit : ∀ x, foldedSetIterable (.Call (.Name "range" pr) [a, b] [] pc) X.env x = pure x := by intro _; rfl) : VS X (.For (.Name n p') (.Call (.Name "range" pr) [a, b] [] pc) body [] pos :: rest) D σ H :=
  vs_cons (ps_for hp hc (pi_range2 hg hm pa_any hst hst2) (pg_name hN hi hxl hf) pss_any hit) ((va2 h1 h stb_is stb_is (by rw [hst, hst2]) hst2).here fun vs H1 e1 ⟨v, w, e, ev, ew⟩ => ⟨lo, z, by rw [e, show v = .int lo from ev, show w = .int z from ew], ⟨by omega, by omega, by omega, by omega⟩, for_range (lo := lo) (n := (z - lo).toNat) Pv (h0 H1 e1) (fun j σ' H' hj q => hs j σ' H' (by omega) q) hd⟩)
/-- while -/
theorem vs_while (W : Nat → L2.St → Hp → Prop) (m0 : Nat) (h0 : W m0 σ H)
    (hs : ∀ m σ' H', W m σ' H' → ∃ c, VT X a σ' H' c ∧ (c = true → ∀ H1, Ex H' H1 → VS X body { D with nx := fun σ2 H2 => ∃ m', m' < m ∧ W m' σ2 H2, ct := fun σ2 H2 => ∃ m', m' < m ∧ W m' σ2 H2, bk := fun σ' H' => VS X rest D σ' H' } σ' H1) ∧ (c = false → ∀ H1, Ex H' H1 → VS X rest D σ' H1))
    (hp : PassesOwn (model X.prog X.w) X.A X.env X.xe := by exact PassesOwn.never) : VS X (.While a body [] pos :: rest) D σ H :=
  vs_cons (ps_while hp pt_any pss_any) ⟨W, ⟨m0, h0⟩, fun m σ' H' hw => by
    obtain ⟨c, hc, h1, h2⟩ := hs m σ' H' hw
    refine hc.here fun H1 e1 => ?_
    cases c with
    | true => exact ⟨_, fun _ _ q => q, h1 rfl H1 e1⟩
    | false => exact h2 rfl H1 e1⟩
end

/-! ### ends; a weaker end -/
/-- what follows is enough -/
def wkS (X : Cx) (st : List Stmt) : TS := fun D σ H => ∃ D0 : Ends, anyS X st D0 σ H ∧ (∀ σ' H', D0.nx σ' H' → D.nx σ' H') ∧ (∀ v H', D0.rt v H' → D.rt v H') ∧ (∀ σ' H', D0.bk σ' H' → D.bk σ' H') ∧ ∀ σ' H', D0.ct σ' H' → D.ct σ' H'
theorem pss_wk {X : Cx} {st : List Stmt} : PSs X st (wkS X st) := ⟨fun pins s σ H D I ⟨D0, h, a1, a2, a3, a4⟩ => thn (pss_any.run pins s σ H D0 I h) fun f s' q => by
  cases f with
  | next => obtain ⟨σ', H', I', q⟩ := q; exact ⟨σ', H', I', a1 _ _ q⟩
  | brk => obtain ⟨σ', H', I', q⟩ := q; exact ⟨σ', H', I', a3 _ _ q⟩
  | cont => obtain ⟨σ', H', I', q⟩ := q; exact ⟨σ', H', I', a4 _ _ q⟩
  | ret u => obtain ⟨v, σ', H', I', r, q⟩ := q; exact ⟨v, σ', H', I', r, a2 _ _ q⟩⟩
theorem vs_wk {X : Cx} {st : List Stmt} {D0 D : Ends} {σ : L2.St} {H : Hp} (h : VS X st D0 σ H) (a1 : ∀ σ' H', D0.nx σ' H' → D.nx σ' H') (a2 : ∀ v H', D0.rt v H' → D.rt v H') (a3 : ∀ σ' H', D0.bk σ' H' → D.bk σ' H') (a4 : ∀ σ' H', D0.ct σ' H' → D.ct σ' H') : VS X st D σ H := ⟨_, pss_wk, D0, h, a1, a2, a3, a4⟩
/-- a def's ends: its value has P, the heap has grown -/
def en (H : Hp) (P : PV) : Ends := { nx := fun _ H' => Ex H H' ∧ P .non H', rt := fun v H' => Ex H H' ∧ P v H' }

/-! ### defs: called with vs in H such a def gives some value of which P -/
abbrev Pr := List V → Hp → PV → Prop
def spOf (pr : Pr) : Sp := fun vs H Q _ => ∃ P, pr vs H P ∧ ∀ v H2, Ex H H2 → P v H2 → Q v H2
/-- the def n of the module, as it stands behind the top -/
structure FnP (K : PySem.W.Frag) (mg : Str → Option Value) (n : Str) (st : Stmt) : Prop where
  ex : ∃ f fd, mg n = some (.ref f) ∧ FunD K n n (defArgs st) (defBody st) (defScope st) [] [] f fd
/-- .. and keeps its word -/
structure DF (P : Program) (w : World) (K : PySem.W.Frag) (mg : Str → Option Value) (base : Heap) (n : Str) (k : Nat) (ps : List Str) (sp : Sp) : Prop where
  ex : ∃ f fd, mg n = some (.ref f) ∧ PySem.W.keepIn K (.ref f) = true ∧ Binds K fd ps [] ∧ FnOk P w K mg base CX0 k f fd ps sp ∧ ∃ oc od osl, K.lookup f = some ⟨oc, od, .func fd, osl⟩
abbrev cx (P : Program) (w : World) (K : PySem.W.Frag) (mg : Str → Option Value) (base : Heap) (N : List Str) (qual : Str) (scope : Scope) (f : Addr) (cdv : Value) (A : Around) (outer : List Env) (s : Shared) (H : Hp) (E : XK) : Cx := (cxOf CX0 P w K mg base N qual scope f cdv A outer s H E).nox
section
variable {P : Program} {w : World} {K : PySem.W.Frag} {mg : Str → Option Value} {base : Heap}
theorem df_gen {n : Str} {st : Stmt} {N ps : List Str} {k : Nat} {sp : Sp} (F : FnP K mg n st) (S : FnScope N ps (defScope st)) (hlen : ∀ vs H Q E, sp vs H Q E → vs.length = ps.length)
    (hb : ∀ (kV doc pm : Value) (an : Option Addr) (cdv ct : Value) (us : List Value), us.length = ps.length → bindArgs (PySem.W.fnOf n n (defArgs st) (defBody st) (defScope st) .none kV doc pm an cdv ct) ⟨us, []⟩ = pure (ps.zip us))
    (body : ∀ (f : Addr) (cdv : Value) (A : Around) (outer : List Env) (s : Shared) (H : Hp) (vs : List V) (Q : VK) (E : XK), Room k (cx P w K mg base N n (defScope st) f cdv A outer s H E).A → sp vs H Q E →
      VS (cx P w K mg base N n (defScope st) f cdv A outer s H E) (defBody st) { nx := fun _ H' => Q .non H', rt := Q } (start N vs) H) : DF P w K mg base n (k + 1) ps sp := by
  obtain ⟨f, fd, hm, hf⟩ := F.ex
  refine ⟨f, fd, hm, hf.kp, hf.bindsN hb, hf.ok S hlen fun cdv A outer s H vs Q E hr hsp => ?_, by
    obtain ⟨oc, od, dV, kV, doc, pm, an, cdv, ct, osl, e, lk, _⟩ := hf.ex
    exact ⟨oc, od, osl, lk⟩⟩
  obtain ⟨t, h, q⟩ := body f cdv A outer s H vs Q E hr hsp
  exact ⟨t, h.nox, q⟩
/-- the rule for a def that only makes things -/
theorem df_mk {n : Str} {st : Stmt} {N ps : List Str} {k : Nat} {pr : Pr} (F : FnP K mg n st) (S : FnScope N ps (defScope st)) (hlen : ∀ vs H P, pr vs H P → vs.length = ps.length)
    (hb : ∀ (kV doc pm : Value) (an : Option Addr) (cdv ct : Value) (us : List Value), us.length = ps.length → bindArgs (PySem.W.fnOf n n (defArgs st) (defBody st) (defScope st) .none kV doc pm an cdv ct) ⟨us, []⟩ = pure (ps.zip us))
    (body : ∀ (f : Addr) (cdv : Value) (A : Around) (outer : List Env) (s : Shared) (H : Hp) (vs : List V) (R : PV) (E : XK), Room k (cx P w K mg base N n (defScope st) f cdv A outer s H E).A → pr vs H R →
      VS (cx P w K mg base N n (defScope st) f cdv A outer s H E) (defBody st) (en H R) (start N vs) H) : DF P w K mg base n (k + 1) ps (spOf pr) := by
  refine df_gen F S (fun vs H Q E ⟨R, h, _⟩ => hlen vs H R h) hb fun f cdv A outer s H vs Q E hr ⟨R, h, q⟩ => ?_
  exact vs_wk (body f cdv A outer s H vs R E hr h) (fun _ H' ⟨e, p⟩ => q _ _ e p) (fun v H' ⟨e, p⟩ => q _ _ e p) (fun _ _ z => z.elim) (fun _ _ z => z.elim)
end
section
variable {X : Cx} {σ : L2.St} {H H' : Hp} {a b e : Expr} {es : List Expr} {P P' : PV} {pos p : Pos} {n : Str} {k : Nat} {ps : List Str} {sp : Sp} {pr : Pr} {PA' : List V → Hp → Prop}
/-- f(e, ..) -/
theorem vn_callS (F : DF X.prog X.w X.K X.mg X.base n k ps sp) (hr : Room k X.A) (ha : VA X (e :: es) σ H PA') (h : ∀ vs H1, Ex H H1 → PA' vs H1 → ∀ Q E, (∀ v H2, Ex H1 H2 → P v H2 → Q v H2) → sp vs H1 Q E) (hg : Gl X n := by rfl)
    (hdb : (n == ("__debug__" : Str)) = false := by decide) (he : starEach (e :: es) X.env = (false, eval e X.env) :: starEach es X.env := by rfl) (hpl : (backTo pos (starEach es X.env)).any (·.1) = false := by rfl) : VN X (.Call (.Name n p) (e :: es) [] pos) σ H P := by
  obtain ⟨f, fd, hm, kp, hb, ok, _⟩ := F.ex
  refine vn_by (pe_call ok hr hg hm kp hb .nil pass0 pa_any hdb he hpl) fun H1 e1 Q q => ha H1 e1 _ fun vs H2 e2 pv => ?_
  rw [List.append_nil]
  exact h vs H2 (e1.trans e2) pv Q E0 fun v H3 e3 p => q v H3 (e2.trans e3) p
theorem vn_call (F : DF X.prog X.w X.K X.mg X.base n k ps (spOf pr)) (hr : Room k X.A) (ha : VA X (e :: es) σ H PA') (h : ∀ vs H1, Ex H H1 → PA' vs H1 → ∃ R, pr vs H1 R ∧ ∀ v H2, Ex H1 H2 → R v H2 → P v H2) (hg : Gl X n := by rfl)
    (hdb : (n == ("__debug__" : Str)) = false := by decide) (he : starEach (e :: es) X.env = (false, eval e X.env) :: starEach es X.env := by rfl) (hpl : (backTo pos (starEach es X.env)).any (·.1) = false := by rfl) : VN X (.Call (.Name n p) (e :: es) [] pos) σ H P :=
  vn_callS F hr ha (fun vs H1 e1 pv Q E q => by
    obtain ⟨R, h1, h2⟩ := h vs H1 e1 pv
    exact ⟨R, h1, fun v H2 e2 r => q v H2 e2 (h2 v H2 e2 r)⟩) hg hdb he hpl
end

/-! ### comprehensions -/
section
variable {X : Cx} {σ : L2.St} {H H' : Hp} {elt tg iter l : Expr} {ifs : List Expr} {scope : Scope} {own : List (Str × Nat)} {pos p : Pos} {P : PV}
abbrev BK (X : Cx) (scope : Scope) (F : Cx → Prop) : Prop := ∀ (s : Shared) (H : Hp) (C : Addr) (cl : List (Str × Addr)) (fp : List Addr), F (X.blk s H scope (compEnvC scope cl C X.env) fp)
def bkE (X : Cx) (scope : Scope) (e : Expr) : TE := fun σ H Q => BK X scope fun Y => anyE Y e σ H Q
def bkT (X : Cx) (scope : Scope) (ifs : List Expr) : TT := fun σ H Q => BK X scope fun Y => ∃ t, PTs Y ifs t ∧ t σ H Q
theorem pe_bk {e : Expr} : BK X scope fun Y => PE Y e (bkE X scope e) := fun s H C cl fp => ⟨fun pins s' σ' H' Q I q => pe_any.run pins s' σ' H' Q I (q s H C cl fp)⟩
theorem pts_bk : BK X scope fun Y => PTs Y ifs (bkT X scope ifs) := fun s H C cl fp => ⟨fun pins s' σ' H' Q I q => by
  obtain ⟨t, h, q⟩ := q s H C cl fp
  exact h.run pins s' σ' H' Q I q⟩
/-- the tests of a comprehension -/
def VTs (Y : Cx) (ifs : List Expr) (σ : L2.St) (H : Hp) (c : Bool) : Prop := ∀ H1, Ex H H1 → ∀ Q : Bool → Hp → Prop, (∀ H2, Ex H1 H2 → Q c H2) → ∃ t, PTs Y ifs t ∧ t σ H1 Q
theorem vts_nil {Y : Cx} : VTs Y [] σ H true := fun H1 e1 Q q => ⟨tYes, pts_nil, q H1 (Ex.refl H1)⟩
theorem vts_one {Y : Cx} {a : Expr} {c : Bool} (h : VT Y a σ H c) : VTs Y [a] σ H c := fun H1 e1 Q q => ⟨_, pts_one pt_any, h H1 e1 Q q⟩
/-- what a turn must show: from the list so far, acc, at Dl -/
def LcTurn (X : Cx) (scope : Scope) (ifs : List Expr) (elt : Expr) (σ : L2.St) (H' : Hp) (Dl : Addr) (acc : List V) (Nx : List V → Hp → Prop) : Prop :=
  ∃ (c : Bool) (P : PV), (BK X scope fun Y => VTs Y ifs σ H' c) ∧ (c = true → (BK X scope fun Y => VN Y elt σ H' P) ∧ ∀ v H1, Ex H' H1 → P v H1 → Nx (acc ++ [v]) (upd H1 Dl (.lst (acc ++ [v])))) ∧ (c = false → ∀ H1, Ex H' H1 → Nx acc H1)
theorem lc_turn {σ' : L2.St} {Dl : Addr} {acc : List V} {Nx : List V → Hp → Prop} {N : Hp → Prop} (hd : H' Dl = some (.lst acc)) (hz : acc.length < 50000) (h : LcTurn X scope ifs elt σ' H' Dl acc Nx) (hN : ∀ acc' H2, Nx acc' H2 → N H2) :
    bkT X scope ifs σ' H' fun b H3 => if b = true then bkE X scope elt σ' H3 fun y H4 => ∃ acc, H4 Dl = some (.lst acc) ∧ acc.length < sizeLine ∧ N (upd H4 Dl (.lst (acc ++ [y]))) else N H3 := by
  obtain ⟨c, P, h1, h2, h3⟩ := h
  intro s Hs C cl fp
  refine h1 s Hs C cl fp H' (Ex.refl H') _ fun H3 e3 => ?_
  cases c with
  | true =>
    show bkE X scope elt σ' H3 fun y H4 => ∃ acc, H4 Dl = some (.lst acc) ∧ acc.length < sizeLine ∧ N (upd H4 Dl (.lst (acc ++ [y])))
    obtain ⟨g1, g2⟩ := h2 rfl
    intro s Hs C cl fp
    exact g1 s Hs C cl fp H3 e3 _ fun y H4 e4 pv => ⟨acc, e4 Dl _ (e3 Dl _ hd), sz_lt (by omega), hN _ _ (g2 y H4 (e3.trans e4) pv)⟩
  | false =>
    show N H3
    exact hN _ _ (h3 rfl H3 e3)
/-- [e for x in xs if ..], x in slot i; Rv D j acc: acc made of the first j items stands at D -/
theorem tvn_lcL {xs : List V} {i : Nat} {n : Str} {p' : Pos} (Rv : Addr → Nat → List V → Hp → Prop) (hN : X.N.Nodup) (ha : VN X l σ H (isL X.K xs)) (hz : xs.length ≤ 40000)
    (ok : BlkOk X.N X.env.scope scope [(n, i)]) (hgn : BK X scope fun Y => PG Y (.Name n p') (gName i)) (hw : ∀ x, wipe ((wipe σ [i]).set i (some x)) [i] = wipe σ [i])
    (h0 : ∀ D H1, Ex H H1 → H1 D = none → Rv D 0 [] (upd H1 D (.lst [])))
    (hs : ∀ D j x acc H', H D = none → Ex H H' → H' D = some (.lst acc) → xs[j]? = some x → Rv D j acc H' → LcTurn X scope ifs elt ((wipe σ [i]).set i (some x)) H' D acc fun acc' H2 => Rv D (j + 1) acc' H2)
    (hc : X.calm = true := by rfl) (hit : ∀ x, foldedSetIterable l X.env x = pure x := by intro _; rfl) :
    ∀ H1, Ex H H1 → ∀ Q : VK, (∀ v H2, Ex H1 H2 → (fun v H' => ∃ D acc, v = .ref D ∧ H D = none ∧ H' D = some (.lst acc) ∧ Rv D xs.length acc H') v H2 → Q v H2) → tLc (iList X.K (anyE X l)) (gName i) (bkT X scope ifs) (bkE X scope elt) [i] σ H1 Q := by
  intro H1 e1 Q q
  refine ha H1 e1 _ fun v H2 e2 ⟨a, ev, hx⟩ => ⟨a, ev, ⟨xs, hx⟩, fun D hD => ?_⟩
  have e12 := e1.trans e2
  have hD0 : H D = none := fresh_back e12 hD
  refine lc_list (K := X.K) (a := a) (xs := xs) (fun j H' => ∃ acc, acc.length ≤ j ∧ Ex H2 H' ∧ H' D = some (.lst acc) ∧ Rv D j acc H') ⟨[], Nat.le_refl _, Ex.new hD, upd_same, h0 D H2 e12 hD⟩ (fun j H' _ ⟨acc, _, e, _⟩ => ex_l e hx) (fun j x H' hj ⟨acc, hl, e, hd, hR⟩ => ⟨hw x, ?_⟩) fun H' ⟨acc, _, e, hd, hR⟩ => q _ _ (e2.trans e) ⟨D, acc, rfl, hD0, hd, hR⟩
  have hjl := (List.getElem?_eq_some_iff.mp hj).1
  have tn := hs D j x acc H' hD0 (e12.trans e) hd hj hR
  obtain ⟨c, P, t1, t2, t3⟩ := tn
  refine lc_turn (Nx := fun acc' H2' => acc'.length ≤ j + 1 ∧ Ex H2 H2' ∧ H2' D = some (.lst acc') ∧ Rv D (j + 1) acc' H2') hd (by omega) ⟨c, P, t1, fun hc' => ⟨(t2 hc').1, fun v H1' e' pv => ⟨by simp; omega, Ex.mut (e.trans e') hD, upd_same, (t2 hc').2 v H1' e' pv⟩⟩, fun hc' H1' e' => ⟨by omega, e.trans e', e' D _ hd, t3 hc' H1' e'⟩⟩ fun acc' H2' h => ⟨acc', h⟩
/-- the value: [e for x in xs if ..], x in slot i; Rv D j acc: acc made of the first j items stands at D -/
theorem vn_lcL {xs : List V} {i : Nat} {n : Str} {p' : Pos} (Rv : Addr → Nat → List V → Hp → Prop) (hN : X.N.Nodup) (ha : VN X l σ H (isL X.K xs)) (hz : xs.length ≤ 40000)
    (ok : BlkOk X.N X.env.scope scope [(n, i)]) (hgn : BK X scope fun Y => PG Y (.Name n p') (gName i)) (hw : ∀ x, wipe ((wipe σ [i]).set i (some x)) [i] = wipe σ [i])
    (h0 : ∀ D H1, Ex H H1 → H1 D = none → Rv D 0 [] (upd H1 D (.lst [])))
    (hs : ∀ D j x acc H', H D = none → Ex H H' → H' D = some (.lst acc) → xs[j]? = some x → Rv D j acc H' → LcTurn X scope ifs elt ((wipe σ [i]).set i (some x)) H' D acc fun acc' H2 => Rv D (j + 1) acc' H2)
    (hc : X.calm = true := by rfl) (hit : ∀ x, foldedSetIterable l X.env x = pure x := by intro _; rfl) :
    VN X (.ListComp elt [⟨.Name n p', l, ifs, 0⟩] scope pos) σ H fun v H' => ∃ D acc, v = .ref D ∧ H D = none ∧ H' D = some (.lst acc) ∧ Rv D xs.length acc H' := vn_by (pe_lc (own := [(n, i)]) hc hN (pi_list pe_any) ok hgn pts_bk pe_bk hit) (tvn_lcL Rv hN ha hz ok hgn hw h0 hs hc hit)
/-- y = [e for x in xs if ..], x in slot i; Rv D j acc: acc made of the first j items stands at D -/
theorem vs_lcL {xs : List V} {i : Nat} {n : Str} {p' : Pos} (Rv : Addr → Nat → List V → Hp → Prop) (hN : X.N.Nodup) (ha : VN X l σ H (isL X.K xs)) (hz : xs.length ≤ 40000)
    {y : Str} {py spos : Pos} {iy : Nat} {rest : List Stmt} {D : Ends} (ok : BlkOk X.N X.env.scope scope [(n, i)]) (hgn : BK X scope fun Y => PG Y (.Name n p') (gName i)) (hw : ∀ x, wipe ((wipe σ [i]).set i (some x)) [i] = wipe σ [i])
    (h0 : ∀ D H1, Ex H H1 → H1 D = none → Rv D 0 [] (upd H1 D (.lst [])))
    (hs : ∀ D j x acc H', H D = none → Ex H H' → H' D = some (.lst acc) → xs[j]? = some x → Rv D j acc H' → LcTurn X scope ifs elt ((wipe σ [i]).set i (some x)) H' D acc fun acc' H2 => Rv D (j + 1) acc' H2)
    (kk : ∀ v H1, Ex H H1 → (fun v H' => ∃ D acc, v = .ref D ∧ H D = none ∧ H' D = some (.lst acc) ∧ Rv D xs.length acc H') v H1 → VS X rest D (σ.set iy (some v)) H1) (hy : X.N[iy]? = some y) (hyl : X.env.scope.names.lookup y = some .local := by rfl) (hsw : swapsWith (.ListComp elt [⟨.Name n p', l, ifs, 0⟩] scope pos) (some (.Name y py)) spos.line X.env = pure true := by exact sw_true rfl rfl rfl (by decide +kernel)) (hc : X.calm = true := by rfl) (hit : ∀ x, foldedSetIterable l X.env x = pure x := by intro _; rfl) :
    VS X (.Assign [.Name y py] (.ListComp elt [⟨.Name n p', l, ifs, 0⟩] scope pos) spos :: rest) D σ H := vs_cons (ps_setLc (i := iy) (own := [(n, i)]) hc hN hy hyl hsw (pi_list pe_any) ok hgn pts_bk pe_bk hit) (tvn_lcL Rv hN ha hz ok hgn hw h0 hs hc hit H (Ex.refl H) _ kk)
/-- .. over range(z) -/
theorem tvn_lcR1 {a : Expr} {z : Int} {i : Nat} {n : Str} {p' pr pc : Pos} (Rv : Addr → Nat → List V → Hp → Prop) (hN : X.N.Nodup) (hm : X.mg "range" = none) (ha : VE X a σ H (.int z)) (hz : z ≤ 40000 ∧ -100000 ≤ z)
    (ok : BlkOk X.N X.env.scope scope [(n, i)]) (hgn : BK X scope fun Y => PG Y (.Name n p') (gName i)) (hw : ∀ x, wipe ((wipe σ [i]).set i (some x)) [i] = wipe σ [i])
    (h0 : ∀ D H1, Ex H H1 → H1 D = none → Rv D 0 [] (upd H1 D (.lst [])))
    (hs : ∀ D (j : Nat) acc H', H D = none → Ex H H' → H' D = some (.lst acc) → (j : Int) < z → Rv D j acc H' → LcTurn X scope ifs elt ((wipe σ [i]).set i (some (.int (j : Int)))) H' D acc fun acc' H2 => Rv D (j + 1) acc' H2)
    (hc : X.calm = true := by rfl) (hg : Gl X "range" := by rfl) (hst : starEach [a] X.env = [(false, eval a X.env)] := by rfl) (hit : ∀ x, foldedSetIterable (.Call (.Name "range" pr) [a] [] pc) X.env x = pure x := by intro _; rfl) :
    ∀ H1, Ex H H1 → ∀ Q : VK, (∀ v H2, Ex H1 H2 → (fun v H' => ∃ D acc, v = .ref D ∧ H D = none ∧ H' D = some (.lst acc) ∧ Rv D z.toNat acc H') v H2 → Q v H2) → tLc (iRng1 (anyA X [a])) (gName i) (bkT X scope ifs) (bkE X scope elt) [i] σ H1 Q := by
  intro H1 e1 Q q
  refine (va1 ha stb_is hst) H1 e1 _ fun vs H2 e2 ⟨v, e, ev⟩ => ⟨z, by rw [e, show v = .int z from ev], by omega, by omega, fun D hD => ?_⟩
  have e12 := e1.trans e2
  have hD0 : H D = none := fresh_back e12 hD
  refine lc_range (lo := 0) (n := z.toNat) (fun j H' => ∃ acc, acc.length ≤ j ∧ Ex H2 H' ∧ H' D = some (.lst acc) ∧ Rv D j acc H') ⟨[], Nat.le_refl _, Ex.new hD, upd_same, h0 D H2 e12 hD⟩ (fun j H' hj ⟨acc, hl, e, hd, hR⟩ => ?_) fun H' ⟨acc, _, e, hd, hR⟩ => q _ _ (e2.trans e) ⟨D, acc, rfl, hD0, hd, hR⟩
  have e0 : (0 : Int) + (j : Int) = (j : Int) := Int.zero_add _
  show wipe ((wipe σ [i]).set i (some (.int ((0 : Int) + (j : Int))))) [i] = wipe σ [i] ∧ bkT X scope ifs ((wipe σ [i]).set i (some (.int ((0 : Int) + (j : Int))))) H' _
  rw [e0]
  refine ⟨hw _, ?_⟩
  have tn := hs D j acc H' hD0 (e12.trans e) hd (by omega) hR
  obtain ⟨c, P, t1, t2, t3⟩ := tn
  refine lc_turn (Nx := fun acc' H2' => acc'.length ≤ j + 1 ∧ Ex H2 H2' ∧ H2' D = some (.lst acc') ∧ Rv D (j + 1) acc' H2') hd (by omega) ⟨c, P, t1, fun hc' => ⟨(t2 hc').1, fun v H1' e' pv => ⟨by simp; omega, Ex.mut (e.trans e') hD, upd_same, (t2 hc').2 v H1' e' pv⟩⟩, fun hc' H1' e' => ⟨by omega, e.trans e', e' D _ hd, t3 hc' H1' e'⟩⟩ fun acc' H2' h => ⟨acc', h⟩
/-- the value: .. over range(z) -/
theorem vn_lcR1 {a : Expr} {z : Int} {i : Nat} {n : Str} {p' pr pc : Pos} (Rv : Addr → Nat → List V → Hp → Prop) (hN : X.N.Nodup) (hm : X.mg "range" = none) (ha : VE X a σ H (.int z)) (hz : z ≤ 40000 ∧ -100000 ≤ z)
    (ok : BlkOk X.N X.env.scope scope [(n, i)]) (hgn : BK X scope fun Y => PG Y (.Name n p') (gName i)) (hw : ∀ x, wipe ((wipe σ [i]).set i (some x)) [i] = wipe σ [i])
    (h0 : ∀ D H1, Ex H H1 → H1 D = none → Rv D 0 [] (upd H1 D (.lst [])))
    (hs : ∀ D (j : Nat) acc H', H D = none → Ex H H' → H' D = some (.lst acc) → (j : Int) < z → Rv D j acc H' → LcTurn X scope ifs elt ((wipe σ [i]).set i (some (.int (j : Int)))) H' D acc fun acc' H2 => Rv D (j + 1) acc' H2)
    (hc : X.calm = true := by rfl) (hg : Gl X "range" := by rfl) (hst : starEach [a] X.env = [(false, eval a X.env)] := by rfl) (hit : ∀ x, foldedSetIterable (.Call (.Name "range" pr) [a] [] pc) X.env x = pure x := by intro _; rfl) :
    VN X (.ListComp elt [⟨.Name n p', .Call (.Name "range" pr) [a] [] pc, ifs, 0⟩] scope pos) σ H fun v H' => ∃ D acc, v = .ref D ∧ H D = none ∧ H' D = some (.lst acc) ∧ Rv D z.toNat acc H' := vn_by (pe_lc (own := [(n, i)]) hc hN (pi_range1 hg hm pa_any hst) ok hgn pts_bk pe_bk hit) (tvn_lcR1 Rv hN hm ha hz ok hgn hw h0 hs hc hg hst hit)
/-- y = .. over range(z) -/
theorem vs_lcR1 {a : Expr} {z : Int} {i : Nat} {n : Str} {p' pr pc : Pos} (Rv : Addr → Nat → List V → Hp → Prop) (hN : X.N.Nodup) (hm : X.mg "range" = none) (ha : VE X a σ H (.int z)) (hz : z ≤ 40000 ∧ -100000 ≤ z)
    {y : Str} {py spos : Pos} {iy : Nat} {rest : List Stmt} {D : Ends} (ok : BlkOk X.N X.env.scope scope [(n, i)]) (hgn : BK X scope fun Y => PG Y (.Name n p') (gName i)) (hw : ∀ x, wipe ((wipe σ [i]).set i (some x)) [i] = wipe σ [i])
    (h0 : ∀ D H1, Ex H H1 → H1 D = none → Rv D 0 [] (upd H1 D (.lst [])))
    (hs : ∀ D (j : Nat) acc H', H D = none → Ex H H' → H' D = some (.lst acc) → (j : Int) < z → Rv D j acc H' → LcTurn X scope ifs elt ((wipe σ [i]).set i (some (.int (j : Int)))) H' D acc fun acc' H2 => Rv D (j + 1) acc' H2)
    (kk : ∀ v H1, Ex H H1 → (fun v H' => ∃ D acc, v = .ref D ∧ H D = none ∧ H' D = some (.lst acc) ∧ Rv D z.toNat acc H') v H1 → VS X rest D (σ.set iy (some v)) H1) (hy : X.N[iy]? = some y) (hyl : X.env.scope.names.lookup y = some .local := by rfl) (hsw : swapsWith (.ListComp elt [⟨.Name n p', .Call (.Name "range" pr) [a] [] pc, ifs, 0⟩] scope pos) (some (.Name y py)) spos.line X.env = pure true := by exact sw_true rfl rfl rfl (by decide +kernel)) (hc : X.calm = true := by rfl) (hg : Gl X "range" := by rfl) (hst : starEach [a] X.env = [(false, eval a X.env)] := by rfl) (hit : ∀ x, foldedSetIterable (.Call (.Name "range" pr) [a] [] pc) X.env x = pure x := by intro _; rfl) :
    VS X (.Assign [.Name y py] (.ListComp elt [⟨.Name n p', .Call (.Name "range" pr) [a] [] pc, ifs, 0⟩] scope pos) spos :: rest) D σ H := vs_cons (ps_setLc (i := iy) (own := [(n, i)]) hc hN hy hyl hsw (pi_range1 hg hm pa_any hst) ok hgn pts_bk pe_bk hit) (tvn_lcR1 Rv hN hm ha hz ok hgn hw h0 hs hc hg hst hit H (Ex.refl H) _ kk)
/-- .. over range(lo, z) -/
theorem vn_lcR2 {a b : Expr} {lo z : Int} {i : Nat} {n : Str} {p' pr pc : Pos} (Rv : Addr → Nat → List V → Hp → Prop) (hN : X.N.Nodup) (hm : X.mg "range" = none) (ha : VE X a σ H (.int lo)) (hb : VE X b σ H (.int z)) (hz : z ≤ 40000 ∧ -100000 ≤ z ∧ 0 ≤ lo ∧ lo ≤ 40000)
    (ok : BlkOk X.N X.env.scope scope [(n, i)]) (hgn : BK X scope fun Y => PG Y (.Name n p') (gName i)) (hw : ∀ x, wipe ((wipe σ [i]).set i (some x)) [i] = wipe σ [i])
    (h0 : ∀ D H1, Ex H H1 → H1 D = none → Rv D 0 [] (upd H1 D (.lst [])))
    (hs : ∀ D (j : Nat) acc H', H D = none → Ex H H' → H' D = some (.lst acc) → lo + (j : Int) < z → Rv D j acc H' → LcTurn X scope ifs elt ((wipe σ [i]).set i (some (.int (lo + (j : Int))))) H' D acc fun acc' H2 => Rv D (j + 1) acc' H2)
    (hc : X.calm = true := by rfl) (hg : Gl X "range" := by rfl) (hst : starEach [a, b] X.env = [(false, eval a X.env), (false, eval b X.env)] := by rfl) (hst2 : starEach [b] X.env = [(false, eval b X.env)] := by rfl) (hit : ∀ x, foldedSetIterable (.Call (.Name "range" pr) [a, b] [] pc) X.env x = pure x := by intro _; rfl) :
    VN X (.ListComp elt [⟨.Name n p', .Call (.Name "range" pr) [a, b] [] pc, ifs, 0⟩] scope pos) σ H fun v H' => ∃ D acc, v = .ref D ∧ H D = none ∧ H' D = some (.lst acc) ∧ Rv D (z - lo).toNat acc H' := by
  refine vn_by (pe_lc (own := [(n, i)]) hc hN (pi_range2 hg hm pa_any hst hst2) ok hgn pts_bk pe_bk hit) fun H1 e1 Q q => ?_
  refine (va2 ha hb stb_is stb_is (by rw [hst, hst2]) hst2) H1 e1 _ fun vs H2 e2 ⟨v, w, e, ev, ew⟩ => ⟨lo, z, by rw [e, show v = .int lo from ev, show w = .int z from ew], ⟨by omega, by omega, by omega, by omega⟩, fun D hD => ?_⟩
  have e12 := e1.trans e2
  have hD0 : H D = none := fresh_back e12 hD
  refine lc_range (lo := lo) (n := (z - lo).toNat) (fun j H' => ∃ acc, acc.length ≤ j ∧ Ex H2 H' ∧ H' D = some (.lst acc) ∧ Rv D j acc H') ⟨[], Nat.le_refl _, Ex.new hD, upd_same, h0 D H2 e12 hD⟩ (fun j H' hj ⟨acc, hl, e, hd, hR⟩ => ⟨hw _, ?_⟩) fun H' ⟨acc, _, e, hd, hR⟩ => q _ _ (e2.trans e) ⟨D, acc, rfl, hD0, hd, hR⟩
  have tn := hs D j acc H' hD0 (e12.trans e) hd (by omega) hR
  obtain ⟨c, P, t1, t2, t3⟩ := tn
  refine lc_turn (Nx := fun acc' H2' => acc'.length ≤ j + 1 ∧ Ex H2 H2' ∧ H2' D = some (.lst acc') ∧ Rv D (j + 1) acc' H2') hd (by omega) ⟨c, P, t1, fun hc' => ⟨(t2 hc').1, fun v H1' e' pv => ⟨by simp; omega, Ex.mut (e.trans e') hD, upd_same, (t2 hc').2 v H1' e' pv⟩⟩, fun hc' H1' e' => ⟨by omega, e.trans e', e' D _ hd, t3 hc' H1' e'⟩⟩ fun acc' H2' h => ⟨acc', h⟩
end
end W47
namespace W47
open PySem PySem.Spec PyProof.Rows L2 Evl C47
/-! ### the text -/
def top (i : Nat) : Stmt := PySem.Challenge.pw_seamlayers_k47_whole_climbs.main.body.getD i (.Pass ⟨0, 0, 0, 0⟩)
abbrev kst (j : Nat) : Stmt := inClass (top 11) j
/-- the built-in names that the text uses -/
structure Bl (mg : Str → Option Value) : Prop where
  isi : mg "isinstance" = none
  int : mg "int" = none
  bool : mg "bool" = none
  str : mg "str" = none
  list : mg "list" = none
  tuple : mg "tuple" = none
  len : mg "len" = none
  range : mg "range" = none
  enum : mg "enumerate" = none
  abs : mg "abs" = none
  sorted : mg "sorted" = none
  sum : mg "sum" = none
  max : mg "max" = none
  min : mg "min" = none
  repr : mg "repr" = none
/-! ### a kind -/
def nmS : Nm → Str
  | .plain => "plain"
  | .mirror => "mirror"
  | .ring => "ring"
def kflds (k : Kd) : List (Str × V) := putF "_size" (.int (k.n : Int)) (putF "_name" (.str (nmS k.nm)) [])
theorem ksn : ¬ (("_name" : Str) = "_size") := by decide +kernel
theorem kflds_name (k : Kd) : (kflds k).lookup ("_name" : Str) = some (.str (nmS k.nm)) := by
  unfold kflds
  rw [lookup_putF, if_neg ksn, lookup_putF, if_pos rfl]
theorem kflds_size (k : Kd) : (kflds k).lookup ("_size" : Str) = some (.int (k.n : Int)) := by
  unfold kflds
  rw [lookup_putF, if_pos rfl]
theorem kflds_no (k : Kd) {m : Str} (h1 : ¬ m = "_size") (h2 : ¬ m = "_name") : (kflds k).lookup m = none := by
  unfold kflds
  rw [lookup_putF, if_neg h1, lookup_putF, if_neg h2]
  all_goals rfl
/-- the kinds that are met -/
def Kd.fine (k : Kd) : Prop := k.ok ∧ 1 ≤ k.n ∧ k.n ≤ 7
/-- a Kind stands at p -/
def KAt (C : Addr) (k : Kd) : PV := fun v H => ∃ p dx, v = .ref p ∧ H p = some (.ins C dx (kflds k))
theorem stb_K {C : Addr} {k : Kd} : Stb (KAt C k) := fun _ _ _ e ⟨p, dx, h1, h2⟩ => ⟨p, dx, h1, e _ _ h2⟩
/-- a method of Kind -/
structure MtP (K : PySem.W.Frag) (C : Addr) (m q : Str) (st : Stmt) : Prop where
  ex : ∃ f fd, Meth K C m f ∧ FunD K m q (defArgs st) (defBody st) (defScope st) [] [] f fd
structure DM (P : Program) (w : World) (K : PySem.W.Frag) (mg : Str → Option Value) (base : Heap) (C : Addr) (m : Str) (k : Nat) (sp : Sp) : Prop where
  ex : ∃ f fd, Meth K C m f ∧ Binds K fd ["self"] [] ∧ FnOk P w K mg base CX0 k f fd ["self"] sp
/-- the class Kind as the top has made it -/
structure TK (K : PySem.W.Frag) (mg : Str → Option Value) (C : Addr) : Prop where
  ins : C8.InsC K C
  nN : NoAttr K C "_name"
  nS : NoAttr K C "_size"
  mgC : mg "Kind" = some (.ref C)
section
variable {P : Program} {w : World} {K : PySem.W.Frag} {mg : Str → Option Value} {base : Heap} {C : Addr}
theorem dm_mk {m q : Str} {st : Stmt} {N : List Str} {k : Nat} {pr : Pr} (F : MtP K C m q st) (S : FnScope N ["self"] (defScope st)) (hlen : ∀ vs H P, pr vs H P → vs.length = 1)
    (hb : ∀ (kV doc pm : Value) (an : Option Addr) (cdv ct : Value) (us : List Value), us.length = 1 → bindArgs (PySem.W.fnOf m q (defArgs st) (defBody st) (defScope st) .none kV doc pm an cdv ct) ⟨us, []⟩ = pure ((["self"] : List Str).zip us))
    (body : ∀ (f : Addr) (cdv : Value) (A : Around) (outer : List Env) (s : Shared) (H : Hp) (vs : List V) (R : PV) (E : XK), Room k (cx P w K mg base N q (defScope st) f cdv A outer s H E).A → pr vs H R →
      VS (cx P w K mg base N q (defScope st) f cdv A outer s H E) (defBody st) (en H R) (start N vs) H) : DM P w K mg base C m (k + 1) (spOf pr) := by
  obtain ⟨f, fd, hm, hf⟩ := F.ex
  refine ⟨f, fd, hm, hf.bindsN hb, hf.ok S (fun vs H Q E ⟨R, h, _⟩ => hlen vs H R h) fun cdv A outer s H vs Q E hr ⟨R, h, q⟩ => ?_⟩
  obtain ⟨t, h, q⟩ := vs_wk (D := { nx := fun _ H' => Q .non H', rt := Q }) (body f cdv A outer s H vs R E hr h) (fun _ H' ⟨e, p⟩ => q _ _ e p) (fun v H' ⟨e, p⟩ => q _ _ e p) (fun _ _ z => z.elim) (fun _ _ z => z.elim)
  exact ⟨t, h.nox, q⟩
end
section
variable {X : Cx} {σ : L2.St} {H H' : Hp} {a b e o : Expr} {es : List Expr} {P P' : PV} {pos p apos : Pos} {x v : V} {C : Addr} {k : Kd}
/-- kind.m() -/
theorem vn_meth {m : Str} {j : Nat} {pr : Pr} {pl : Sem Bool} (F : DM X.prog X.w X.K X.mg X.base C m j (spOf pr)) (c : Cls X.K C) (hr : Room j X.A) (ho : VN X o σ H (KAt C k)) (h1 : ¬ m = "_size") (h2 : ¬ m = "_name") (h : ∀ q H1, Ex H H1 → KAt C k q H1 → ∃ R, pr [q] H1 R ∧ ∀ v H2, Ex H1 H2 → R v H2 → P v H2)
    (ht : eval (.Call (.Attribute o m apos) [] [] pos) X.env = (do
      let ov ← eval o X.env
      standAt apos.atName
      let (f, first) ← holding [ov] (getMethod ov m pl)
      callWith pos f first (backTo pos (starEach [] X.env)) (backToKw pos (keywordEach [] X.env))) := by rfl) : VN X (.Call (.Attribute o m apos) [] [] pos) σ H P := by
  obtain ⟨f, fd, hm, hb, ok⟩ := F.ex
  refine vn_by (pe_meth0 pe_any c hm ok hr hb .nil pass0 ht) fun H1 e1 Q q => ho H1 e1 _ fun v H2 e2 ⟨a, dx, ev, ha⟩ => ⟨a, dx, kflds k, ev, ha, kflds_no k h1 h2, ?_⟩
  subst ev
  obtain ⟨R, g1, g2⟩ := h (.ref a) H2 (e1.trans e2) ⟨a, dx, rfl, ha⟩
  exact ⟨R, g1, fun v H3 e3 r => q v H3 (e2.trans e3) (g2 v H3 e3 r)⟩
theorem ve_fld {f : Str} {fs : List (Str × V)} {dx q : Addr} (he : VE X e σ H (.ref q)) (hq : H q = some (.ins C dx fs)) (c : Cls X.K C) (n : NoAttr X.K C f) (l : fs.lookup f = some v) (hb : attributeBase e f X.env (eval e X.env) = eval e X.env := by rfl) : VE X (.Attribute e f pos) σ H v :=
  vn_by (pe_fld pe_any hb) fun H1 e1 Q k => he H1 e1 _ fun x H2 e2 ex => ⟨q, C, dx, fs, v, ex, (e1.trans e2) _ _ hq, c, n, l, k v H2 e2 rfl⟩
/-! isinstance -/
theorem tyX_mono {K : PySem.W.Frag} {t : Value} (e : Ex H H') (h : TyX K H x t) : TyX K H' x t := by
  cases h with
  | base b =>
    refine .base ?_
    cases b with
    | non => exact .non
    | bl x => exact .bl x
    | int x => exact .int x
    | str x => exact .str x
    | flt x => exact .flt x
    | lst h => exact .lst (e _ _ h)
    | frz h => exact .frz (e _ _ h)
    | tup h => exact .tup (e _ _ h)
    | dK h => exact .dK (e _ _ h)
    | dT h => exact .dT (e _ _ h)
    | ins h c a1 a2 a3 a4 => exact .ins (e _ _ h) c a1 a2 a3 a4
  | byt b => exact .byt b
  | set h => exact .set (e _ _ h)
  | kList h c => exact .kList h c
  | kTuple h c => exact .kTuple h c
  | kDict h c => exact .kDict h c
  | fTuple h => exact .fTuple (e _ _ h)
  | fDict h => exact .fDict (e _ _ h)
theorem ve_bty {n : Str} {T : String} (hm : X.mg n = none) (hv : bootBuiltins n = some (.type T)) (hg : Gl X n := by rfl) (hn : n ≠ "__name__" := by decide) (hd : (n == ("__debug__" : Str)) = false := by decide) : VE X (.Name n pos) σ H (.ty T) :=
  vn_by (pe_bltn (v := .ty T) hg hm hv rfl hn hd) fun H1 e1 Q q => q _ H1 (Ex.refl H1) rfl
theorem ve_isi {T U : String} {c : Bool} (hm : X.mg "isinstance" = none) (ha : VE X a σ H x) (hb : VE X b σ H (.ty T)) (ty : TyX X.K H x (.type U)) (k : kitB U T = some c)
    (hg : Gl X "isinstance" := by rfl) (hs : starEach [a, b] X.env = (false, eval a X.env) :: starEach [b] X.env := by rfl) (hs2 : starEach [b] X.env = (false, eval b X.env) :: starEach [] X.env := by rfl) (hpl : (backTo pos (starEach [b] X.env)).any (·.1) = false := by rfl) :
    VE X (.Call (.Name "isinstance" p) [a, b] [] pos) σ H (.bl c) :=
  vn_callB call_isi hm (by decide +kernel) (va2 ha hb stb_is stb_is hs hs2) (fun vs H1 e1 ⟨v, w, e, ev, ew⟩ Q q => ⟨x, .ty T, .type U, .type T, c, by rw [e, show v = x from ev, show w = .ty T from ew], .ty T, tyX_mono e1 ty, kit_ty k, q _ H1 (Ex.refl H1) rfl⟩) hg (by decide) (by decide) hs hpl
theorem ve_isK (I : C8.InsC X.K C) (hm : X.mg "isinstance" = none) (mC : X.mg "Kind" = some (.ref C)) (ha : VN X a σ H (KAt C k)) (hg : Gl X "isinstance" := by rfl) (hgK : Gl X "Kind" := by rfl) {p2 : Pos}
    (hs : starEach [a, .Name "Kind" p2] X.env = (false, eval a X.env) :: starEach [.Name "Kind" p2] X.env := by rfl) (hs2 : starEach [.Name "Kind" p2] X.env = (false, eval (.Name "Kind" p2) X.env) :: starEach [] X.env := by rfl) (hpl : (backTo pos (starEach [.Name "Kind" p2] X.env)).any (·.1) = false := by rfl) :
    VE X (.Call (.Name "isinstance" p) [a, .Name "Kind" p2] [] pos) σ H (.bl true) :=
  vn_callB (C8.call_isC I) hm (by decide +kernel) (va2 ha (ve_glob mC (show RelV (.ref C) _ from rfl) hgK) stb_K stb_is hs hs2) (fun vs H1 e1 ⟨v, w, e, ⟨q, dx, ev, hq⟩, ew⟩ Q k => ⟨q, dx, kflds _, by rw [e, ev, show w = .ref C from ew], hq, k _ H1 (Ex.refl H1) rfl⟩) hg (by decide) (by decide) hs hpl
/-- int(flag), int(n) -/
theorem ve_intb {c : Bool} (hm : X.mg "int" = none) (ha : VE X a σ H (.bl c)) (hg : Gl X "int" := by rfl) (hs : starEach [a] X.env = (false, eval a X.env) :: starEach [] X.env := by rfl) (hpl : (backTo pos (starEach [] X.env)).any (·.1) = false := by rfl) : VE X (.Call (.Name "int" p) [a] [] pos) σ H (.int (if c then 1 else 0)) :=
  vn_callTy call_int1 hm (by decide +kernel) (va1 ha stb_is hs) (fun vs H1 e1 ⟨v, e, ev⟩ Q q => .inr ⟨c, by rw [e, show v = .bl c from ev], q _ H1 (Ex.refl H1) rfl⟩) hg (by decide) (by decide) hs hpl
theorem ve_inti {i : Int} (hm : X.mg "int" = none) (ha : VE X a σ H (.int i)) (hg : Gl X "int" := by rfl) (hs : starEach [a] X.env = (false, eval a X.env) :: starEach [] X.env := by rfl) (hpl : (backTo pos (starEach [] X.env)).any (·.1) = false := by rfl) : VE X (.Call (.Name "int" p) [a] [] pos) σ H (.int i) :=
  vn_callTy call_int1 hm (by decide +kernel) (va1 ha stb_is hs) (fun vs H1 e1 ⟨v, e, ev⟩ Q q => .inl ⟨i, by rw [e, show v = .int i from ev], q _ H1 (Ex.refl H1) rfl⟩) hg (by decide) (by decide) hs hpl
theorem ve_abs {i : Int} (hm : X.mg "abs" = none) (ha : VE X a σ H (.int i)) (hg : Gl X "abs" := by rfl) (hs : starEach [a] X.env = (false, eval a X.env) :: starEach [] X.env := by rfl) (hpl : (backTo pos (starEach [] X.env)).any (·.1) = false := by rfl) : VE X (.Call (.Name "abs" p) [a] [] pos) σ H (.int (absI i)) :=
  vn_callB call_abs hm (by decide +kernel) (va1 ha stb_is hs) (fun vs H1 e1 ⟨v, e, ev⟩ Q q => ⟨i, by rw [e, show v = .int i from ev], q _ H1 (Ex.refl H1) rfl⟩) hg (by decide) (by decide) hs hpl
theorem ve_len {xs : List V} (hm : X.mg "len" = none) (ha : VN X a σ H (isL X.K xs)) (hg : Gl X "len" := by rfl) (hs : starEach [a] X.env = (false, eval a X.env) :: starEach [] X.env := by rfl) (hpl : (backTo pos (starEach [] X.env)).any (·.1) = false := by rfl) : VE X (.Call (.Name "len" p) [a] [] pos) σ H (.int (xs.length : Int)) :=
  vn_callB call_len_seq hm boot_len (va1 ha stb_isL hs) (fun vs H1 e1 ⟨v, e, q, ev, hq⟩ Q k => ⟨q, xs, by rw [e, ev], .inl hq, k _ H1 (Ex.refl H1) rfl⟩) hg (by decide) (by decide) hs hpl
/-- list(xs) -/
theorem vn_list {xs : List V} (hm : X.mg "list" = none) (ha : VN X a σ H (isL X.K xs)) (hg : Gl X "list" := by rfl) (hs : starEach [a] X.env = (false, eval a X.env) :: starEach [] X.env := by rfl) (hpl : (backTo pos (starEach [] X.env)).any (·.1) = false := by rfl) : VN X (.Call (.Name "list" p) [a] [] pos) σ H (newL H xs) :=
  vn_callTy call_list_of hm boot_list (va1 ha stb_isL hs) (fun vs H1 e1 ⟨v, e, q, ev, hq⟩ Q k => ⟨q, xs, by rw [e, ev], .inl hq, fun l hl => k _ _ (Ex.new hl) ⟨l, rfl, fresh_back e1 hl, upd_same⟩⟩) hg (by decide) (by decide) hs hpl
/-- list(range(lo, hi)) -/
theorem vn_listR {b : Expr} {lo z : Int} {p2 p3 : Pos} (hl : X.mg "list" = none) (hm : X.mg "range" = none) (ha : VE X a σ H (.int lo)) (hb : VE X b σ H (.int z)) (hz : 0 ≤ lo ∧ lo ≤ 100000 ∧ 0 ≤ z ∧ z ≤ 100000) (hg : Gl X "list" := by rfl) (hg2 : Gl X "range" := by rfl) (hc : X.calm = true := by rfl)
    (hs : starEach [a, b] X.env = (false, eval a X.env) :: starEach [b] X.env := by rfl) (hs2 : starEach [b] X.env = (false, eval b X.env) :: starEach [] X.env := by rfl) (hpl : (backTo p3 (starEach [b] X.env)).any (·.1) = false := by rfl)
    (na : starEach [.Call (.Name "range" p2) [a, b] [] p3] X.env = (false, eval (.Call (.Name "range" p2) [a, b] [] p3) X.env) :: starEach [] X.env := by rfl) : VN X (.Call (.Name "list" p) [.Call (.Name "range" p2) [a, b] [] p3] [] pos) σ H (newL H (isI (irange lo (z - lo).toNat))) :=
  vn_by (pe_listRg hc hg hl (prg_2 hg2 hm pe_any pe_any hs hs2 hpl) na) fun H1 e1 Q q => ha H1 e1 _ fun v H2 e2 ev => hb H2 (e1.trans e2) _ fun u H3 e3 eu => ⟨lo, z, ev, eu, RgOk.of_le hz.1 (by omega) (by omega) (by omega), fun l hl => q _ _ ((e2.trans e3).trans (Ex.new hl)) ⟨l, rfl, fresh_back ((e1.trans e2).trans e3) hl, by
    rw [upd_same]
    unfold rgV isI irange
    rw [List.map_map] <;> rfl⟩⟩
theorem vn_listR1 {z : Int} {p2 p3 : Pos} (hl : X.mg "list" = none) (hm : X.mg "range" = none) (ha : VE X a σ H (.int z)) (hz : 0 ≤ z ∧ z ≤ 100000) (hg : Gl X "list" := by rfl) (hg2 : Gl X "range" := by rfl) (hc : X.calm = true := by rfl)
    (hs : starEach [a] X.env = (false, eval a X.env) :: starEach [] X.env := by rfl)
    (na : starEach [.Call (.Name "range" p2) [a] [] p3] X.env = (false, eval (.Call (.Name "range" p2) [a] [] p3) X.env) :: starEach [] X.env := by rfl) : VN X (.Call (.Name "list" p) [.Call (.Name "range" p2) [a] [] p3] [] pos) σ H (newL H (isI (irange 0 z.toNat))) :=
  vn_by (pe_listRg hc hg hl (prg_1 hg2 hm pe_any hs) na) fun H1 e1 Q q => ha H1 e1 _ fun v H2 e2 ev => ⟨z, ev, RgOk.of_le (by omega) (by omega) (by omega) (by omega), fun l hl => q _ _ (e2.trans (Ex.new hl)) ⟨l, rfl, fresh_back (e1.trans e2) hl, by
    rw [upd_same]
    unfold rgV isI irange
    rw [List.map_map, Int.sub_zero] <;> rfl⟩⟩
end

/-! ### kinds.py -/
section
variable {P : Program} {w : World} {K : PySem.W.Frag} {mg : Str → Option Value} {base : Heap} {C : Addr}
abbrev prName (C : Addr) : Pr := fun vs H P => ∃ v k, vs = [v] ∧ KAt C k v H ∧ P = Is (.str (nmS k.nm))
abbrev prSize (C : Addr) : Pr := fun vs H P => ∃ v k, vs = [v] ∧ KAt C k v H ∧ P = Is (.int (k.n : Int))
abbrev prSteps (C : Addr) : Pr := fun vs H P => ∃ v k, vs = [v] ∧ KAt C k v H ∧ 1 ≤ k.n ∧ P = Is (.int (k.steps : Int))
abbrev prStart (C : Addr) : Pr := fun vs H P => ∃ v k, vs = [v] ∧ KAt C k v H ∧ k.n ≤ 7 ∧ P = newL H (isI k.start)
theorem sc1 : FnScope ["self"] ["self"] (defScope (kst 1)) := ⟨rfl, rfl, rfl, by decide +kernel, rfl, by decide +kernel, by decide +kernel⟩
theorem dm_name (F : MtP K C "name" "Kind.name" (kst 1)) (T : TK K mg C) : DM P w K mg base C "name" 1 (spOf (prName C)) := by
  refine dm_mk F sc1 (fun vs H P ⟨p, k, e, _⟩ => by rw [e]; rfl) (fun _ _ _ _ _ _ us hl => match us, hl with | [_], _ => rfl) ?_
  rintro f cdv A outer s H vs R E hr ⟨_, k, rfl, ⟨p, dx, rfl, hp⟩, rfl⟩
  exact vs_ret (ve_fld (lv 0) hp T.ins.cl T.nN (kflds_name k)) fun v H1 e1 ev => ⟨e1, ev⟩
theorem sc2 : FnScope ["self"] ["self"] (defScope (kst 2)) := ⟨rfl, rfl, rfl, by decide +kernel, rfl, by decide +kernel, by decide +kernel⟩
theorem dm_size (F : MtP K C "size" "Kind.size" (kst 2)) (T : TK K mg C) : DM P w K mg base C "size" 1 (spOf (prSize C)) := by
  refine dm_mk F sc2 (fun vs H P ⟨p, k, e, _⟩ => by rw [e]; rfl) (fun _ _ _ _ _ _ us hl => match us, hl with | [_], _ => rfl) ?_
  rintro f cdv A outer s H vs R E hr ⟨_, k, rfl, ⟨p, dx, rfl, hp⟩, rfl⟩
  exact vs_ret (ve_fld (lv 0) hp T.ins.cl T.nS (kflds_size k)) fun v H1 e1 ev => ⟨e1, ev⟩
theorem nm_plain (k : Kd) : decide (V.str (nmS k.nm) = V.str "plain") = decide (k.nm = .plain) := by
  cases k.nm <;> decide +kernel
theorem nm_mirror (k : Kd) : decide (V.str (nmS k.nm) = V.str "mirror") = decide (k.nm = .mirror) := by
  cases k.nm <;> decide +kernel
theorem nm_ring (k : Kd) : decide (V.str (nmS k.nm) = V.str "ring") = decide (k.nm = .ring) := by
  cases k.nm <;> decide +kernel
theorem sc3 : FnScope ["self"] ["self"] (defScope (kst 3)) := ⟨rfl, rfl, rfl, by decide +kernel, rfl, by decide +kernel, by decide +kernel⟩
theorem dm_steps (F : MtP K C "steps" "Kind.steps" (kst 3)) (T : TK K mg C) (B : Bl mg) : DM P w K mg base C "steps" 1 (spOf (prSteps C)) := by
  refine dm_mk F sc3 (fun vs H P ⟨p, k, e, _⟩ => by rw [e]; rfl) (fun _ _ _ _ _ _ us hl => match us, hl with | [_], _ => rfl) ?_
  rintro f cdv A outer s H vs R E hr ⟨_, k, rfl, ⟨p, dx, rfl, hp⟩, hn, rfl⟩
  refine vs_ret (ve_sub (ve_fld (lv 0) hp T.ins.cl T.nS (kflds_size k)) (ve_intb B.int (ve_eq (ve_fld (lv 0) hp T.ins.cl T.nN (kflds_name k)) ve_str))) fun v H1 e1 ev => ⟨e1, ?_⟩
  rw [ev, nm_plain]
  show V.int _ = V.int _
  congr 1
  unfold Kd.steps
  cases k.nm
  · show (k.n : Int) - 1 = ((k.n - 1 : Nat) : Int); omega
  · show (k.n : Int) - 0 = (k.n : Int); omega
  · show (k.n : Int) - 0 = (k.n : Int); omega
theorem sc4 : FnScope ["self", "first"] ["self"] (defScope (kst 4)) := ⟨rfl, rfl, rfl, by decide +kernel, rfl, by decide +kernel, by decide +kernel⟩
theorem dm_start (F : MtP K C "start" "Kind.start" (kst 4)) (T : TK K mg C) (B : Bl mg) : DM P w K mg base C "start" 1 (spOf (prStart C)) := by
  refine dm_mk F sc4 (fun vs H P ⟨p, k, e, _⟩ => by rw [e]; rfl) (fun _ _ _ _ _ _ us hl => match us, hl with | [_], _ => rfl) ?_
  rintro f cdv A outer s H vs R E hr ⟨_, k, rfl, ⟨p, dx, rfl, hp⟩, hn, rfl⟩
  refine vs_set (i := 1) sc4.nd (ve_intb B.int (ve_eq (ve_fld (lv 0) hp T.ins.cl T.nN (kflds_name k)) ve_str)) fun v H1 e1 ev => ?_
  have ev2 : v = .int k.first := by
    rw [show v = _ from ev, nm_mirror]
    unfold Kd.first
    cases k.nm <;> rfl
  subst ev2
  have hp1 := e1 _ _ hp
  have h01 : 0 ≤ k.first ∧ k.first ≤ 1 := by unfold Kd.first; split <;> omega
  refine vs_ret (vn_listR B.list B.range (lv 1) (ve_add (lv 1) (ve_fld (lv 0) hp1 T.ins.cl T.nS (kflds_size k))) (by omega)) fun v H2 e2 h => ⟨e1.trans e2, ?_⟩
  have e : (k.first + (k.n : Int) - k.first).toNat = k.n := by omega
  rw [e] at h
  exact h.back e1
end
end W47
namespace W47
open PySem PySem.Spec PyProof.Rows L2 Evl C47
/-! ### lists of ints by place -/
theorem isI_len (o : List Int) : (isI o).length = o.length := List.length_map _
theorem at_I {o : List Int} {i : Int} (h0 : 0 ≤ i) (h1 : i < o.length) : atI (isI o) i = some (.int (gi o i.toNat)) := by
  obtain ⟨n, rfl⟩ : ∃ n : Nat, i = n := ⟨i.toNat, by omega⟩
  refine atI_nat ?_
  rw [List.getElem?_map, show (n : Int).toNat = n by omega, gi_lt (by omega), List.getElem?_eq_getElem (by omega)]
  rfl
theorem at_In {o : List Int} {n : Nat} (h1 : n < o.length) : atI (isI o) (n : Int) = some (.int (gi o n)) := by
  have := at_I (o := o) (i := (n : Int)) (by omega) (by omega)
  rwa [show (n : Int).toNat = n by omega] at this
theorem ixn {n j : Nat} (h : j < n) : ixN n (j : Int) = some j := ixN_nat h
theorem isI_set (o : List Int) (i : Nat) (v : Int) : (isI o).set i (.int v) = isI (o.set i v) := (List.map_set ..).symm
abbrev isN (l : List Nat) : List V := l.map fun (g : Nat) => V.int (g : Int)
section
variable {X : Cx} {σ : L2.St} {H H' : Hp} {a b e o : Expr} {es : List Expr} {P P' P1 P2 : PV} {pos p apos : Pos} {x v : V} {rest : List Stmt} {D : Ends}
/-- o.f = e, o an instance that is tracked -/
theorem vs_fldset {C q dx : Addr} {fs : List (Str × V)} {f : Str} {p' : Pos} (ho : VE X o σ H (.ref q)) (he : VE X e σ H v) (hq : H q = some (.ins C dx fs)) (c : Cls X.K C) (n : NoAttr X.K C f) (hl : fs.length < 1000) (k : ∀ H1, Ex H H1 → VS X rest D σ (upd H1 q (.ins C dx (putF f v fs))))
    (hs : swapsWith e (some (.Attribute o f p')) pos.line X.env = pure false := by rfl) : VS X (.Assign [.Attribute o f p'] e pos :: rest) D σ H :=
  vs_cons (ps_fld pe_any pe_any hs) (he.here fun u H1 e1 eu => ho H1 e1 _ fun y H2 e2 ey => by
    rw [show u = v from eu]
    exact ⟨q, C, dx, fs, ey, (e1.trans e2) _ _ hq, c, n, hl, k H2 (e1.trans e2)⟩)
/-- xs[i], xs[j] = a, b -/
theorem vs_set2 {o1 i1 o2 i2 : Expr} {l : Addr} {xs : List V} {z1 z2 : Int} {j1 j2 : Nat} {t1 t2 pt pt2 : Pos} {kt k2} (hl : H l = some (.lst xs)) (ha : VN X a σ H P1) (hb : VN X b σ H P2) (s1 : Stb P1) (s2 : Stb P2)
    (ho1 : VE X o1 σ H (.ref l)) (hi1 : VE X i1 σ H (.int z1)) (hj1 : ixN xs.length z1 = some j1) (ho2 : ∀ v H1, (∀ c u, H c = some u → c ≠ l → H1 c = some u) → H1 l = some (.lst (xs.set j1 v)) → VE X o2 σ H1 (.ref l)) (hi2 : ∀ v H1, (∀ c u, H c = some u → c ≠ l → H1 c = some u) → H1 l = some (.lst (xs.set j1 v)) → VE X i2 σ H1 (.int z2)) (hj2 : ixN xs.length z2 = some j2)
    (k : ∀ v w H1, (∀ c u, H c = some u → c ≠ l → H1 c = some u) → (∃ H0, Ex H H0 ∧ P1 v H0 ∧ P2 w H0) → H1 l = some (.lst ((xs.set j1 v).set j2 w)) → VS X rest D σ H1) (hc : X.calm = true := by rfl)
    (hst : starEach [a, b] X.env = (false, eval a X.env) :: starEach [b] X.env := by rfl) (hst2 : starEach [b] X.env = (false, eval b X.env) :: starEach [] X.env := by rfl)
    (g1 : ∀ v, assign (.Subscript o1 i1 t1) X.env v = (do
      let ov ← holding [v] (eval o1 X.env)
      let iv ← holding [v, ov] (eval i1 X.env)
      standAt t1
      holding [v, ov, iv] (setItem ov iv v)
      release [v, ov, iv] []) := by intro _; rfl)
    (g2 : ∀ v, assign (.Subscript o2 i2 t2) X.env v = (do
      let ov ← holding [v] (eval o2 X.env)
      let iv ← holding [v, ov] (eval i2 X.env)
      standAt t2
      holding [v, ov, iv] (setItem ov iv v)
      release [v, ov, iv] []) := by intro _; rfl)
    (q1 : (assignEach [.Subscript o1 i1 t1, .Subscript o2 i2 t2] X.env).map (·.2) = assign (.Subscript o1 i1 t1) X.env :: (assignEach [.Subscript o2 i2 t2] X.env).map (·.2) := by rfl) (q2 : (assignEach [.Subscript o2 i2 t2] X.env).map (·.2) = assign (.Subscript o2 i2 t2) X.env :: (assignEach [] X.env).map (·.2) := by rfl)
    (hn : (assignEach [.Subscript o1 i1 t1, .Subscript o2 i2 t2] X.env).length = 2 := by rfl) (hfi : (assignEach [.Subscript o1 i1 t1, .Subscript o2 i2 t2] X.env).findIdx? (·.1) = none := by rfl)
    (hs : swapsWithSole [.Tuple [.Subscript o1 i1 t1, .Subscript o2 i2 t2] kt pt] (.Tuple [a, b] k2 pt2) pos.line X.env = pure false := by rfl) (hw : swappedStores [.Tuple [.Subscript o1 i1 t1, .Subscript o2 i2 t2] kt pt] (.Tuple [a, b] k2 pt2) X.env = pure none := by rfl)
    (h1 : (assignEach [.Tuple [.Subscript o1 i1 t1, .Subscript o2 i2 t2] kt pt] X.env).map (·.2) = [assign (.Tuple [.Subscript o1 i1 t1, .Subscript o2 i2 t2] kt pt) X.env] := by rfl) :
    VS X (.Assign [.Tuple [.Subscript o1 i1 t1, .Subscript o2 i2 t2] kt pt] (.Tuple [a, b] k2 pt2) pos :: rest) D σ H :=
  vs_cons (ps_asg (pe_tup pa_any) (pg_tup hc (pgs_cons (pg_sub pe_any pe_any set_list g1) (pgs_cons (pg_sub pe_any pe_any set_list g2) pgs_nil q2) q1) hn hfi) hs hw h1) ((va2 ha hb s1 s2 hst hst2).here fun vs H1 e1 ⟨v, w, ev, pv, pw⟩ => ⟨by rw [ev]; show 2 ≤ sizeLine; decide, fun t ht => by
    have e2 : Ex H1 (upd H1 t (.tup vs)) := Ex.new ht
    refine ⟨t, vs, rfl, SqT.of upd_same, by rw [ev]; rfl, v, [w], ev, ?_⟩
    refine ho1 _ (e1.trans e2) _ fun ov H3 e3 eo => hi1 H3 ((e1.trans e2).trans e3) _ fun iv H4 e4 ei => ⟨l, xs, z1, j1, eo, ei, (((e1.trans e2).trans e3).trans e4) _ _ hl, hj1, ?_⟩
    have e14 : Ex H H4 := ((e1.trans e2).trans e3).trans e4
    have kp : ∀ c u, H c = some u → c ≠ l → (upd H4 l (.lst (xs.set j1 v))) c = some u := fun c u hc hne => by rw [upd_ne hne]; exact e14 _ _ hc
    refine ⟨w, [], rfl, ?_⟩
    refine ho2 v _ kp upd_same _ (Ex.refl _) _ fun ov H5 e5 eo2 => hi2 v _ kp upd_same H5 e5 _ fun iv H6 e6 ei2 => ⟨l, xs.set j1 v, z2, j2, eo2, ei2, (e5.trans e6) _ _ upd_same, by rw [List.length_set]; exact hj2, rfl, ?_⟩
    exact k v w _ (fun c u hc hne => by rw [upd_ne hne]; exact (e5.trans e6) _ _ (kp c u hc hne)) ⟨H1, e1, pv, pw⟩ upd_same⟩)
end

/-! ### is_whole to falls_of -/
section
variable {P : Program} {w : World} {K : PySem.W.Frag} {mg : Str → Option Value} {base : Heap} {C : Addr}
def wholeB : V → Bool
  | .int _ => true
  | _ => false
/-- an int or a bool -/
def flat2 (v : V) : Prop := (∃ i, v = .int i) ∨ ∃ c, v = .bl c
abbrev prWhole : Pr := fun vs H P => ∃ v, vs = [v] ∧ flat2 v ∧ P = Is (.bl (wholeB v))
theorem sc8 : FnScope ["value"] ["value"] (defScope (top 8)) := ⟨rfl, rfl, rfl, by decide +kernel, rfl, by decide +kernel, by decide +kernel⟩
theorem df_whole (F : FnP K mg "is_whole" (top 8)) (B : Bl mg) : DF P w K mg base "is_whole" 1 ["value"] (spOf prWhole) := by
  refine df_mk F sc8 (fun vs H P ⟨v, e, _⟩ => by rw [e]; rfl) (fun _ _ _ _ _ _ us hl => match us, hl with | [_], _ => rfl) ?_
  rintro f cdv A outer s H vs R E hr ⟨v, rfl, hv, rfl⟩
  rcases hv with ⟨i, rfl⟩ | ⟨c, rfl⟩
  · exact vs_ret (ve_and (ve_isi (T := "int") B.isi (lv 0) (ve_bty B.int (by decide +kernel)) (.base (.int i)) (c := true) (by decide +kernel)) fun _ => ve_one (ve_not (ve_isi (T := "bool") B.isi (lv 0) (ve_bty B.bool (by decide +kernel)) (.base (.int i)) (c := false) (by decide +kernel)))) fun v H1 e1 ev => ⟨e1, ev⟩
  · exact vs_ret (ve_and (ve_isi (T := "int") B.isi (lv 0) (ve_bty B.int (by decide +kernel)) (.base (.bl c)) (c := true) (by decide +kernel)) fun _ => ve_one (ve_not (ve_isi (T := "bool") B.isi (lv 0) (ve_bty B.bool (by decide +kernel)) (.base (.bl c)) (c := true) (by decide +kernel)))) fun v H1 e1 ev => ⟨e1, ev⟩
abbrev prBtw : Pr := fun vs H P => ∃ i l h : Int, vs = [.int i, .int l, .int h] ∧ P = Is (.bl (decide (l ≤ i) && decide (i ≤ h)))
theorem sc9 : FnScope ["value", "low", "high"] ["value", "low", "high"] (defScope (top 9)) := ⟨rfl, rfl, rfl, by decide +kernel, rfl, by decide +kernel, by decide +kernel⟩
theorem df_btw (F : FnP K mg "is_between" (top 9)) (D1 : DF P w K mg base "is_whole" 1 ["value"] (spOf prWhole)) : DF P w K mg base "is_between" 2 ["value", "low", "high"] (spOf prBtw) := by
  refine df_mk F sc9 (fun vs H P ⟨i, l, h, e, _⟩ => by rw [e]; rfl) (fun _ _ _ _ _ _ us hl => match us, hl with | [_, _, _], _ => rfl) ?_
  rintro f cdv A outer s H vs R E hr ⟨i, l, h, rfl, rfl⟩
  refine vs_ret (VE.to (y := .bl (true && (decide (l ≤ i) && (false || decide (i ≤ h))))) (ve_and (vn_call D1 hr (va1 (lv 0) stb_is) (by
    rintro _ H1 e1 ⟨_, rfl, rfl⟩
    exact ⟨_, ⟨_, rfl, .inl ⟨i, rfl⟩, rfl⟩, fun u H2 e2 eu => eu⟩)) fun _ =>
    ve_and (ve_ge (lv 0) (lv 1)) fun _ => ve_one (ve_or (ve_isN (lv 2)) fun _ => ve_one (ve_le (lv 0) (lv 2)))) ?_) fun v H1 e1 ev => ⟨e1, ?_⟩
  · rfl
  · exact ev
abbrev prChk : Pr := fun vs H P => ∃ i l h : Int, vs = [.int i, .int l, .int h] ∧ l ≤ i ∧ i ≤ h ∧ P = Is .non
theorem sc10 : FnScope ["number", "low", "high"] ["number", "low", "high"] (defScope (top 10)) := ⟨rfl, rfl, rfl, by decide +kernel, rfl, by decide +kernel, by decide +kernel⟩
theorem df_chk (F : FnP K mg "check_number" (top 10)) (D1 : DF P w K mg base "is_between" 2 ["value", "low", "high"] (spOf prBtw)) : DF P w K mg base "check_number" 3 ["number", "low", "high"] (spOf prChk) := by
  refine df_mk F sc10 (fun vs H P ⟨i, l, h, e, _⟩ => by rw [e]; rfl) (fun _ _ _ _ _ _ us hl => match us, hl with | [_, _, _], _ => rfl) ?_
  rintro f cdv A outer s H vs R E hr ⟨i, l, h, rfl, h1, h2, rfl⟩
  refine vs_no (c := false) (VT.to (vt_not (vt_val (c := true) (vn_call D1 hr (va3 (lv 0) (lv 1) (lv 2) stb_is stb_is stb_is) (by
    rintro _ H1 e1 ⟨_, _, _, rfl, rfl, rfl, rfl⟩
    exact ⟨_, ⟨i, l, h, rfl, rfl⟩, fun u H2 e2 eu => by rw [show u = _ from eu, decide_eq_true h1, decide_eq_true h2] <;> rfl⟩)))) rfl) rfl fun H1 e1 => vs_nil ⟨e1, rfl⟩
/-- the table of bounds -/
structure TB (K : PySem.W.Frag) (w : World) (mg : Str → Option Value) : Prop where
  ex : ∃ a es n, mg "BOUNDS" = some (.ref a) ∧ KDict K w a es n ∧ ∀ m : Nm, ∃ t lo hi, PySem.W.nsIn K a (nmS m) = some (some (.ref t)) ∧ (∀ H, SqT K H t [.int lo, .int hi]) ∧ ∀ k : Kd, k.nm = m → k.ok → k.n ≤ 5 ∨ (k.nm = .plain ∧ k.n ≤ 7) → lo ≤ k.n ∧ (k.n : Int) ≤ hi
def spKI (C : Addr) : Sp := fun vs H Q _ => ∃ x dx k, vs = [.ref x, .str (nmS k.nm), .int (k.n : Int)] ∧ H x = some (.ins C dx []) ∧ k.ok ∧ (k.n ≤ 5 ∨ (k.nm = .plain ∧ k.n ≤ 7)) ∧ ∀ H', (∀ b o, b ≠ x → H b = some o → H' b = some o) → H' x = some (.ins C dx (kflds k)) → Q .non H'
end
end W47
namespace W47
open PySem PySem.Spec PyProof.Rows L2 Evl C47
theorem neT {c : Bool} (h : c = true) : (!c) = false := by rw [h]; rfl
section
variable {P : Program} {w : World} {K : PySem.W.Frag} {mg : Str → Option Value} {base : Heap} {C : Addr}
/-- Kind's __init__ -/
structure DI (P : Program) (w : World) (K : PySem.W.Frag) (mg : Str → Option Value) (base : Heap) (C : Addr) (k : Nat) (sp : Sp) : Prop where
  ex : ∃ f fd, Mk K C f ∧ Binds K fd ["self", "name", "size"] [] ∧ FnOk P w K mg base CX0 k f fd ["self", "name", "size"] sp
structure MkP (K : PySem.W.Frag) (C : Addr) (st : Stmt) : Prop where
  ex : ∃ f fd, Mk K C f ∧ FunD K "__init__" "Kind.__init__" (defArgs st) (defBody st) (defScope st) [] [] f fd
theorem sc0 : FnScope ["self", "name", "size"] ["self", "name", "size"] (defScope (kst 0)) := ⟨rfl, rfl, rfl, by decide +kernel, rfl, by decide +kernel, by decide +kernel⟩
theorem di_init (F : MkP K C (kst 0)) (T : TK K mg C) (B : Bl mg) (TBo : TB K w mg) (D1 : DF P w K mg base "check_number" 3 ["number", "low", "high"] (spOf prChk)) : DI P w K mg base C 4 (spKI C) := by
  obtain ⟨f, fd, hm, hf⟩ := F.ex
  refine ⟨f, fd, hm, hf.bindsN (fun _ _ _ _ _ _ us hl => match us, hl with | [_, _, _], _ => rfl), hf.ok sc0 (fun vs H Q E ⟨x, dx, k, e, _⟩ => by rw [e]; rfl) fun cdv A outer s H vs Q E hr ⟨x, dx, k, e, hx, hk, hk5, q⟩ => ?_⟩
  subst e
  have main : VS (cx P w K mg base ["self", "name", "size"] "Kind.__init__" (defScope (kst 0)) f cdv A outer s H E) (defBody (kst 0)) { nx := fun _ H' => Q .non H', rt := Q } (L2.start ["self", "name", "size"] [.ref x, .str (nmS k.nm), .int (k.n : Int)]) H := by
    obtain ⟨a, es, n, mB, kd, hB⟩ := TBo.ex
    obtain ⟨t, lo, hi, hn, ht, hb⟩ := hB k.nm
    obtain ⟨hlo, hhi⟩ := hb k rfl hk hk5
    have gB : ∀ H1 {pos : Pos}, VE (cx P w K mg base ["self", "name", "size"] "Kind.__init__" (defScope (kst 0)) f cdv A outer s H E) (.Name "BOUNDS" pos) (L2.start ["self", "name", "size"] [.ref x, .str (nmS k.nm), .int (k.n : Int)]) H1 (.ref a) := fun H1 pos => ve_glob mB (show RelV (.ref a) _ from rfl)
    have gI : ∀ H1 {pos p1 p2 : Pos}, VE (cx P w K mg base ["self", "name", "size"] "Kind.__init__" (defScope (kst 0)) f cdv A outer s H E) (.Subscript (.Name "BOUNDS" p1) (.Name "name" p2) pos) (L2.start ["self", "name", "size"] [.ref x, .str (nmS k.nm), .int (k.n : Int)]) H1 (.ref t) := fun H1 pos p1 p2 =>
      vn_by (pe_ix ix_kdict pe_any pe_any (fun _ _ => rfl)) fun H2 e2 Q q => gB H1 H2 e2 _ fun v H3 e3 ev => (show VE (cx P w K mg base ["self", "name", "size"] "Kind.__init__" (defScope (kst 0)) f cdv A outer s H E) (.Name "name" p2) (L2.start ["self", "name", "size"] [.ref x, .str (nmS k.nm), .int (k.n : Int)]) H1 (.str (nmS k.nm)) from lv 1) H3 (e2.trans e3) _ fun u H4 e4 eu =>
        ⟨a, nmS k.nm, .ref t, ev, eu, ⟨es, n, _, kd.at_, kd.lit, hn, rfl⟩, q _ H4 (e3.trans e4) rfl⟩
    refine vs_no (c := false) (VT.to (vw_or (vt_not (vt_val (ve_isi (T := "str") B.isi (lv 1) (ve_bty B.str (by decide +kernel)) (.base (.str _)) (c := true) (by decide +kernel)))) fun _ => vw_or1 (vt_cmp (c := false) (op_notIn_kd kd) (lv 1) (gB H) stb_is (by
      rintro _ _ H1 e1 rfl rfl Q q
      exact ⟨nmS k.nm, _, rfl, rfl, hn, q _ H1 (Ex.refl H1) rfl⟩) rfl)).t rfl) rfl fun H1 e1 => ?_
    refine vs_expr (P := Is .non) (vn_call D1 hr (va3 (lv 2) (ve_ixT (gI H1) (ht H1) ve_int (v := .int lo) rfl) (ve_ixT (gI H1) (ht H1) ve_int (v := .int hi) rfl) stb_is stb_is stb_is) (by
      rintro _ H2 e2 ⟨_, _, _, rfl, rfl, rfl, rfl⟩
      exact ⟨_, ⟨_, _, _, rfl, hlo, hhi, rfl⟩, fun u H2 e2 eu => eu⟩)) fun v H2 e2 ev => ?_
    refine vs_fldset (lv 0) (lv 1) ((e1.trans e2) _ _ hx) T.ins.cl T.nN (by show 0 < 1000; decide) fun H3 e3 => ?_
    refine vs_fldset (lv 0) (lv 2) upd_same T.ins.cl T.nS (by show 1 < 1000; decide) fun H4 e4 => vs_nil ?_
    refine q _ (fun b o hb ho => ?_) upd_same
    rw [upd_ne hb]
    refine e4 _ _ ?_
    rw [upd_ne hb]
    exact ((e1.trans e2).trans e3) _ _ ho
  obtain ⟨t, h, q⟩ := main
  exact ⟨t, h.nox, q⟩
end
section
variable {X : Cx} {σ : L2.St} {H H' : Hp} {a b : Expr} {pos p : Pos} {C : Addr} {k : Kd}
/-- Kind(name, size) -/
theorem vn_kind {j : Nat} (F : DI X.prog X.w X.K X.mg X.base C j (spKI C)) (hr : Room (j + 1) X.A) (mC : X.mg "Kind" = some (.ref C)) (hk : k.ok) (hk5 : k.n ≤ 5 ∨ (k.nm = .plain ∧ k.n ≤ 7)) (ha : VE X a σ H (.str (nmS k.nm))) (hb : VE X b σ H (.int (k.n : Int))) (hg : Gl X "Kind" := by rfl)
    (hs : starEach [a, b] X.env = (false, eval a X.env) :: starEach [b] X.env := by rfl) (hs2 : starEach [b] X.env = (false, eval b X.env) :: starEach [] X.env := by rfl) (hpl : (backTo pos (starEach [b] X.env)).any (·.1) = false := by rfl) : VN X (.Call (.Name "Kind" p) [a, b] [] pos) σ H (KAt C k) := by
  obtain ⟨f, fd, M, bi, ok⟩ := F.ex
  refine vn_by (pe_make M ok hr hg mC bi .nil pass0 pa_any (by decide) hs hpl) fun H1 e1 Q q => (va2 ha hb stb_is stb_is hs hs2) H1 e1 _ fun vs H2 e2 ⟨v, u, e, ev, eu⟩ => ?_
  intro x dx nx ndx nex
  refine ⟨x, dx, k, by rw [e, show v = _ from ev, show u = _ from eu] <;> rfl, upd_same, hk, hk5, fun H3 kp hx => ⟨rfl, q _ H3 (e2.trans fun b o hb => ?_) ⟨x, dx, rfl, hx⟩⟩⟩
  have hbx := ne_of_none hb nx
  refine kp b o hbx ?_
  rw [upd_ne hbx, upd_ne (ne_of_none hb ndx)]
  exact hb
end
section
variable {P : Program} {w : World} {K : PySem.W.Frag} {mg : Str → Option Value} {base : Heap} {C : Addr}
abbrev prCK (C : Addr) : Pr := fun vs H P => ∃ v k, vs = [v] ∧ KAt C k v H ∧ P = Is .non
theorem sc12 : FnScope ["kind"] ["kind"] (defScope (top 12)) := ⟨rfl, rfl, rfl, by decide +kernel, rfl, by decide +kernel, by decide +kernel⟩
theorem df_ckind (F : FnP K mg "check_kind" (top 12)) (T : TK K mg C) (B : Bl mg) : DF P w K mg base "check_kind" 1 ["kind"] (spOf (prCK C)) := by
  refine df_mk F sc12 (fun vs H P ⟨v, k, e, _⟩ => by rw [e]; rfl) (fun _ _ _ _ _ _ us hl => match us, hl with | [_], _ => rfl) ?_
  rintro f cdv A outer s H vs R E hr ⟨_, k, rfl, ⟨p, dx, rfl, hp⟩, rfl⟩
  refine vs_no (c := false) (VT.to (vt_not (vt_val (ve_isK T.ins B.isi T.mgC ((lv 0 : VE _ _ _ _ (.ref p)).imp fun v H1 e1 ev => ⟨p, dx, ev, e1 _ _ hp⟩)))) rfl) rfl fun H1 e1 => vs_nil ⟨e1, rfl⟩
/-- the methods, by name -/
structure KM (P : Program) (w : World) (K : PySem.W.Frag) (mg : Str → Option Value) (base : Heap) (C : Addr) : Prop where
  name : DM P w K mg base C "name" 1 (spOf (prName C))
  size : DM P w K mg base C "size" 1 (spOf (prSize C))
  steps : DM P w K mg base C "steps" 1 (spOf (prSteps C))
  start : DM P w K mg base C "start" 1 (spOf (prStart C))
  T : TK K mg C
end
section
variable {X : Cx} {σ : L2.St} {H H' : Hp} {o : Expr} {pos apos : Pos} {C : Addr} {k : Kd}
/-- kind.name() == "..", as a value and as a test -/
theorem ve_name {pl : Sem Bool} (M : KM X.prog X.w X.K X.mg X.base C) (hr : Room 1 X.A) (ho : VN X o σ H (KAt C k)) (ht : eval (.Call (.Attribute o "name" apos) [] [] pos) X.env = (do
      let ov ← eval o X.env
      standAt apos.atName
      let (f, first) ← holding [ov] (getMethod ov "name" pl)
      callWith pos f first (backTo pos (starEach [] X.env)) (backToKw pos (keywordEach [] X.env))) := by rfl) : VE X (.Call (.Attribute o "name" apos) [] [] pos) σ H (.str (nmS k.nm)) :=
  vn_meth M.name M.T.ins.cl hr ho (by decide +kernel) (by decide +kernel) (fun v H1 e1 hv => ⟨_, ⟨v, k, rfl, hv, rfl⟩, fun u H2 e2 eu => eu⟩) ht
theorem ve_size {pl : Sem Bool} (M : KM X.prog X.w X.K X.mg X.base C) (hr : Room 1 X.A) (ho : VN X o σ H (KAt C k)) (ht : eval (.Call (.Attribute o "size" apos) [] [] pos) X.env = (do
      let ov ← eval o X.env
      standAt apos.atName
      let (f, first) ← holding [ov] (getMethod ov "size" pl)
      callWith pos f first (backTo pos (starEach [] X.env)) (backToKw pos (keywordEach [] X.env))) := by rfl) : VE X (.Call (.Attribute o "size" apos) [] [] pos) σ H (.int (k.n : Int)) :=
  vn_meth M.size M.T.ins.cl hr ho (by decide +kernel) (by decide +kernel) (fun v H1 e1 hv => ⟨_, ⟨v, k, rfl, hv, rfl⟩, fun u H2 e2 eu => eu⟩) ht
theorem ve_steps {pl : Sem Bool} (M : KM X.prog X.w X.K X.mg X.base C) (hr : Room 1 X.A) (hn : 1 ≤ k.n) (ho : VN X o σ H (KAt C k)) (ht : eval (.Call (.Attribute o "steps" apos) [] [] pos) X.env = (do
      let ov ← eval o X.env
      standAt apos.atName
      let (f, first) ← holding [ov] (getMethod ov "steps" pl)
      callWith pos f first (backTo pos (starEach [] X.env)) (backToKw pos (keywordEach [] X.env))) := by rfl) : VE X (.Call (.Attribute o "steps" apos) [] [] pos) σ H (.int (k.steps : Int)) :=
  vn_meth M.steps M.T.ins.cl hr ho (by decide +kernel) (by decide +kernel) (fun v H1 e1 hv => ⟨_, ⟨v, k, rfl, hv, hn, rfl⟩, fun u H2 e2 eu => eu⟩) ht
theorem vn_start {pl : Sem Bool} (M : KM X.prog X.w X.K X.mg X.base C) (hr : Room 1 X.A) (hn : k.n ≤ 7) (ho : VN X o σ H (KAt C k)) (ht : eval (.Call (.Attribute o "start" apos) [] [] pos) X.env = (do
      let ov ← eval o X.env
      standAt apos.atName
      let (f, first) ← holding [ov] (getMethod ov "start" pl)
      callWith pos f first (backTo pos (starEach [] X.env)) (backToKw pos (keywordEach [] X.env))) := by rfl) : VN X (.Call (.Attribute o "start" apos) [] [] pos) σ H (newL H (isI k.start)) :=
  vn_meth M.start M.T.ins.cl hr ho (by decide +kernel) (by decide +kernel) (fun v H1 e1 hv => ⟨_, ⟨v, k, rfl, hv, hn, rfl⟩, fun u H2 e2 eu => eu.back e1⟩) ht
/-- slots that hold a kind, a list -/
theorem kv {i : Nat} {n : Str} {pos : Pos} {v : V} (h : KAt C k v H) (hl : VE X (.Name n pos) σ H v) : VN X (.Name n pos) σ H (KAt C k) := hl.imp fun u H1 e1 eu => by rw [show u = v from eu]; exact stb_K _ _ _ e1 h
theorem llv {n : Str} {pos : Pos} {v : V} {xs : List V} (h : isL X.K xs v H) (hl : VE X (.Name n pos) σ H v) : VN X (.Name n pos) σ H (isL X.K xs) := hl.imp fun u H1 e1 eu => by rw [show u = v from eu]; exact stb_isL _ _ _ e1 h
end
section
variable {P : Program} {w : World} {K : PySem.W.Frag} {mg : Str → Option Value} {base : Heap} {C : Addr}
abbrev prCr (C : Addr) : Pr := fun vs H P => ∃ v u k o g, vs = [v, u, .int ((g : Nat) : Int)] ∧ KAt C k v H ∧ isL K (isI o) u H ∧ o.length = k.n ∧ g < k.steps ∧ P = Is (.bl (crossedB k o g))
theorem sc13 : FnScope ["kind", "order", "step"] ["kind", "order", "step"] (defScope (top 13)) := ⟨rfl, rfl, rfl, by decide +kernel, rfl, by decide +kernel, by decide +kernel⟩
theorem dec_intV (i j : Int) : decide (V.int i = V.int j) = decide (i = j) := by
  by_cases h : i = j
  · subst h; simp
  · rw [decide_eq_false h, decide_eq_false fun q => h (V.int.inj q)]
theorem df_cr (F : FnP K mg "is_crossed" (top 13)) (M : KM P w K mg base C) (B : Bl mg) : DF P w K mg base "is_crossed" 2 ["kind", "order", "step"] (spOf (prCr (K := K) C)) := by
  refine df_mk F sc13 (fun vs H P ⟨v, u, k, o, g, e, _⟩ => by rw [e]; rfl) (fun _ _ _ _ _ _ us hl => match us, hl with | [_, _, _], _ => rfl) ?_
  rintro f cdv A outer s H vs R E hr ⟨v, u, k, o, g, rfl, hv, hu, hl, hg, rfl⟩
  have hsz : k.steps ≤ k.n := by unfold Kd.steps; split <;> omega
  refine vs_ifret (c := decide (k.nm = .mirror)) (P := Is (.bl (crossedB k o g))) (VT.to (vt_eq (ve_name M hr (kv (i := 0) hv (lv 0))) ve_str) (nm_mirror k)) (fun hm => ?_) (fun _ v H1 e1 p => ⟨e1, p⟩) fun hm H1 e1 => ?_
  · have hm : k.nm = .mirror := of_decide_eq_true hm
    have hs : k.steps = k.n := by unfold Kd.steps; rw [hm]
    refine vn_if (c := decide (g = 0)) (VT.to (vt_eq (lv 2) ve_int) (by rw [dec_intV]; exact decide_eq_decide.mpr ⟨fun h => by omega, fun h => by omega⟩)) (fun hz => ?_) fun hz => ?_
    · have hz : g = 0 := of_decide_eq_true hz
      refine VE.to (ve_lt (ve_ixL (llv hu (lv 1)) ve_int (v := .int (gi o 0)) (at_In (n := 0) (by omega))) ve_int) ?_
      unfold crossedB
      rw [hm, hz]
      rfl
    · have hz : ¬ g = 0 := of_decide_eq_false hz
      refine VE.to (ve_gt (ve_ixL (llv hu (lv 1)) (ve_sub (lv 2) ve_int) (v := .int (gi o (g - 1))) ?_) (ve_ixL (llv hu (lv 1)) (lv 2) (v := .int (gi o g)) (at_In (by omega)))) ?_
      · have := at_In (o := o) (n := g - 1) (by omega)
        rwa [show ((g - 1 : Nat) : Int) = (g : Int) - 1 by omega] at this
      · unfold crossedB
        rw [hm]
        show _ = V.bl (if g = 0 then _ else _)
        rw [if_neg hz]
  · have hm : ¬ k.nm = .mirror := of_decide_eq_false hm
    have hv1 := stb_K _ _ _ e1 hv
    have hu1 := stb_isL _ _ _ e1 hu
    refine vs_ifret (c := decide (k.nm = .ring) && decide (g + 1 = k.n)) (P := Is (.bl (crossedB k o g))) (vw_and (VT.to (vt_eq (ve_name M hr (kv (i := 0) hv1 (lv 0))) ve_str) (nm_ring k)) fun _ => vw_and1 (VT.to (vt_eq (lv 2) (ve_sub (ve_len B.len (llv hu1 (lv 1))) ve_int)) ?_)).t (fun hm2 => ?_) (fun _ v H2 e2 p => ⟨e1.trans e2, p⟩) fun hm2 H2 e2 => ?_
    · rw [dec_intV, isI_len, hl]
      exact decide_eq_decide.mpr ⟨fun h => by omega, fun h => by omega⟩
    · obtain ⟨h1, h2⟩ := Bool.and_eq_true_iff.mp hm2
      have h1 : k.nm = .ring := of_decide_eq_true h1
      have h2 : g + 1 = k.n := of_decide_eq_true h2
      refine VE.to (ve_gt (ve_ixL (llv hu1 (lv 1)) (lv 2) (v := .int (gi o g)) (at_In (by omega))) (ve_add (ve_ixL (llv hu1 (lv 1)) ve_int (v := .int (gi o 0)) (at_In (n := 0) (by omega))) (ve_len B.len (llv hu1 (lv 1))))) ?_
      unfold crossedB
      rw [h1, isI_len, hl]
      show _ = V.bl (if g + 1 = k.n then _ else _)
      rw [if_pos h2]
    · have hlt : g + 1 < k.n := by
        unfold Kd.steps at hg
        cases hk : k.nm with
        | mirror => exact absurd hk hm
        | plain => rw [hk] at hg; have hg : g < k.n - 1 := hg; omega
        | ring =>
          rw [hk] at hg hm2
          have hg : g < k.n := hg
          have : ¬ g + 1 = k.n := fun z => by rw [decide_eq_true z] at hm2; cases hm2
          omega
      have hu2 := stb_isL _ _ _ e2 hu1
      refine vs_ret (VE.to (y := .bl (crossedB k o g)) (ve_gt (ve_ixL (llv hu2 (lv 1)) (lv 2) (v := .int (gi o g)) (at_In (by omega))) (ve_ixL (llv hu2 (lv 1)) (ve_add (lv 2) ve_int) (v := .int (gi o (g + 1))) ?_)) ?_) fun v H3 e3 p => ⟨(e1.trans e2).trans e3, p⟩
      · exact at_In (o := o) (n := g + 1) (by omega)
      · unfold crossedB
        cases hk : k.nm with
        | mirror => exact absurd hk hm
        | plain => rfl
        | ring =>
          rw [hk] at hm2
          have : ¬ g + 1 = k.n := fun z => by rw [decide_eq_true z] at hm2; cases hm2
          show _ = V.bl (if g + 1 = k.n then _ else _)
          rw [if_neg this]
end
end W47
namespace W47
open PySem PySem.Spec PyProof.Rows L2 Evl C47
/-- H' is H, and something at p that H does not know -/
theorem ex_but {H H1 H2 : Hp} {p : Addr} (e : Ex H H1) (hp : H p = none) (kp : ∀ c u, H1 c = some u → c ≠ p → H2 c = some u) : Ex H H2 := fun c u h => kp c u (e c u h) (ne_of_none h hp)
section
variable {P : Program} {w : World} {K : PySem.W.Frag} {mg : Str → Option Value} {base : Heap} {C : Addr}
abbrev prSt (K : PySem.W.Frag) (C : Addr) : Pr := fun vs H P => ∃ v u k o g, vs = [v, u, .int ((g : Nat) : Int)] ∧ KAt C k v H ∧ isL K (isI o) u H ∧ o.length = k.n ∧ g < k.steps ∧ k.n ≤ 7 ∧ (k.nm = .ring → 2 ≤ k.n) ∧ P = newL H (isI (stepL k o g))
theorem sc14 : FnScope ["kind", "order", "step", "found", "at"] ["kind", "order", "step"] (defScope (top 14)) := ⟨rfl, rfl, rfl, by decide +kernel, rfl, by decide +kernel, by decide +kernel⟩
theorem steps_le (k : Kd) : k.steps ≤ k.n := by unfold Kd.steps; split <;> omega
theorem df_step (F : FnP K mg "by_step" (top 14)) (M : KM P w K mg base C) (B : Bl mg) : DF P w K mg base "by_step" 2 ["kind", "order", "step"] (spOf (prSt K C)) := by
  refine df_mk F sc14 (fun vs H P ⟨v, u, k, o, g, e, _⟩ => by rw [e]; rfl) (fun _ _ _ _ _ _ us hl => match us, hl with | [_, _, _], _ => rfl) ?_
  rintro f cdv A outer s H vs R E hr ⟨v, u, k, o, g, rfl, hv, hu, hl, hg, hn7, hr2, rfl⟩
  have hsz := steps_le k
  refine vs_set (i := 3) sc14.nd (vn_list B.list (llv hu (lv 1))) fun _ H1 e1 ⟨p, ep, hp0, hp⟩ => ?_
  subst ep
  have hv1 := stb_K _ _ _ e1 hv
  have hu1 := stb_isL _ _ _ e1 hu
  -- what the list at p becomes is told at the end
  have fin : ∀ {σ' : L2.St} {H' : Hp}, Ex H H' → H' p = some (.lst (isI (stepL k o g))) → σ'[3]? = some (some (.ref p)) → VS (cx P w K mg base ["kind", "order", "step", "found", "at"] "by_step" (defScope (top 14)) f cdv A outer s H E) [(defBody (top 14)).getD 2 (.Pass ⟨0, 0, 0, 0⟩)] (en H (newL H (isI (stepL k o g)))) σ' H' := fun {σ' H'} e h hσ =>
    vs_ret (lv 3 hσ : VE _ _ _ _ (.ref p)) fun v2 H2 e2 ev => ⟨e.trans e2, p, ev, hp0, e2 _ _ h⟩
  refine vs_if (c := decide (k.nm = .mirror) && decide (g = 0)) (vw_and (VT.to (vt_eq (ve_name M hr (kv (i := 0) hv1 (lv 0))) ve_str) (nm_mirror k)) fun _ => vw_and1 (VT.to (vt_eq (lv 2) ve_int) (by rw [dec_intV]; exact decide_eq_decide.mpr ⟨fun h => by omega, fun h => by omega⟩))).t (fun hc H2 e2 => ?_) fun hc H2 e2 => ?_
  · obtain ⟨h1, h2⟩ := Bool.and_eq_true_iff.mp hc
    have h1 : k.nm = .mirror := of_decide_eq_true h1
    have h2 : g = 0 := of_decide_eq_true h2
    have hp2 := e2 _ _ hp
    refine vs_setL (j := 0) hp2 (ve_neg (ve_ixL ((lv 3 : VE _ _ _ _ (.ref p)).imp fun v3 H3 e3 ev => ⟨p, ev, sq_of (e3 _ _ hp2)⟩) ve_int (v := .int (gi o 0)) (at_In (n := 0) (by omega)))) (lv 3) ve_int (ixn (j := 0) (by rw [isI_len]; omega)) (fun v3 H3 e3 ev => ?_) stb_is
    refine vs_nil (fin (ex_but ((e1.trans e2).trans e3) hp0 fun c x hc hne => by rw [upd_ne hne]; exact hc) ?_ rfl)
    rw [upd_same, show v3 = _ from ev, isI_set]
    unfold stepL
    rw [h1, h2]
    rfl
  · have hv2 := stb_K _ _ _ e2 hv1
    have hu2 := stb_isL _ _ _ e2 hu1
    have hp2 := e2 _ _ hp
    have hc : ¬ (k.nm = .mirror ∧ g = 0) := fun ⟨a, b⟩ => by rw [decide_eq_true a, decide_eq_true b] at hc; cases hc
    refine vs_if (c := decide (k.nm = .ring) && decide (g + 1 = k.n)) (vw_and (VT.to (vt_eq (ve_name M hr (kv (i := 0) hv2 (lv 0))) ve_str) (nm_ring k)) fun _ => vw_and1 (VT.to (vt_eq (lv 2) (ve_sub (ve_len B.len (llv hu2 (lv 1))) ve_int)) (by rw [dec_intV, isI_len, hl]; exact decide_eq_decide.mpr ⟨fun h => by omega, fun h => by omega⟩))).t (fun hc2 H3 e3 => ?_) fun hc2 H3 e3 => ?_
    · obtain ⟨h1, h2⟩ := Bool.and_eq_true_iff.mp hc2
      have h1 : k.nm = .ring := of_decide_eq_true h1
      have h2 : g + 1 = k.n := of_decide_eq_true h2
      have hp3 := e3 _ _ hp2
      have hu3 := stb_isL _ _ _ e3 hu2
      have hn2 := hr2 h1
      refine vs_set2 (j1 := 0) (j2 := g) hp3 (ve_sub (ve_ixL (llv hu3 (lv 1)) (lv 2) (v := .int (gi o g)) (at_In (by omega))) (ve_len B.len (llv hu3 (lv 1)))) (ve_add (ve_ixL (llv hu3 (lv 1)) ve_int (v := .int (gi o 0)) (at_In (n := 0) (by omega))) (ve_len B.len (llv hu3 (lv 1)))) stb_is stb_is
        (lv 3) ve_int (ixn (j := 0) (by rw [isI_len]; omega)) (fun v4 H4 _ _ => lv 3) (fun v4 H4 _ _ => lv 2) (ixn (by rw [isI_len]; omega)) fun v4 v5 H4 kp ⟨H5, _, ev4, ev5⟩ hp4 => ?_
      refine vs_nil (vs_nil (fin (ex_but ((e1.trans e2).trans e3) hp0 kp) ?_ rfl))
      rw [hp4, show v4 = _ from ev4, show v5 = _ from ev5, isI_set, isI_set, isI_len, hl]
      unfold stepL
      rw [h1]
      show _ = some (HO.lst (isI (if g + 1 = k.n then _ else _)))
      rw [if_pos h2]
    · have hp3 := e3 _ _ hp2
      have hu3 := stb_isL _ _ _ e3 hu2
      have hv3 := stb_K _ _ _ e3 hv2
      have hc2 : ¬ (k.nm = .ring ∧ g + 1 = k.n) := fun ⟨a, b⟩ => by rw [decide_eq_true a, decide_eq_true b] at hc2; cases hc2
      -- at = step - int(kind.name() == 'mirror')
      obtain ⟨at_, hat, hlt, hst⟩ : ∃ at_ : Nat, (g : Int) - (if decide (k.nm = .mirror) then 1 else 0) = at_ ∧ at_ + 1 < o.length ∧ stepL k o g = swapAt o at_ := by
        unfold Kd.steps at hg
        unfold stepL
        cases hk : k.nm with
        | plain => rw [hk] at hg; have hg : g < k.n - 1 := hg; exact ⟨g, by simp, by omega, rfl⟩
        | mirror =>
          rw [hk] at hg
          have hg : g < k.n := hg
          have : ¬ g = 0 := fun z => hc ⟨hk, z⟩
          refine ⟨g - 1, ?_, by omega, ?_⟩
          · rw [decide_eq_true rfl, if_pos rfl]; omega
          · show (if g = 0 then _ else _) = _
            rw [if_neg this]
        | ring =>
          rw [hk] at hg
          have hg : g < k.n := hg
          have : ¬ g + 1 = k.n := fun z => hc2 ⟨hk, z⟩
          refine ⟨g, by simp, by omega, ?_⟩
          show (if g + 1 = k.n then _ else _) = _
          rw [if_neg this]
      rw [hst] at fin
      refine vs_set (i := 4) sc14.nd (VE.to (y := .int (at_ : Int)) (ve_sub (lv 2) (ve_intb B.int (VE.to (y := .bl (decide (k.nm = .mirror))) (ve_eq (ve_name M hr (kv (i := 0) hv3 (lv 0))) ve_str) (by rw [nm_mirror])))) (by rw [hat])) fun v4 H4 e4 ev4 => ?_
      cases ev4
      have hp4 := e4 _ _ hp3
      have hu4 := stb_isL _ _ _ e4 hu3
      refine vs_set2 (xs := isI o) (j1 := at_) (j2 := at_ + 1) hp4 (ve_ixL (llv hu4 (lv 1)) (ve_add (lv 4) ve_int) (v := .int (gi o (at_ + 1))) (at_In (n := at_ + 1) (by omega))) (ve_ixL (llv hu4 (lv 1)) (lv 4) (v := .int (gi o at_)) (at_In (by omega))) stb_is stb_is
        (lv 3) (lv 4) (ixn (by rw [isI_len]; omega)) (fun v5 H5 _ _ => lv 3) (fun v5 H5 _ _ => ve_add (lv 4) ve_int) (ixn (n := (isI o).length) (j := at_ + 1) (by rw [isI_len]; omega)) fun v5 v6 H5 kp ⟨H6, _, ev5, ev6⟩ hp5 => ?_
      rw [hst]
      refine vs_nil (vs_nil (fin (ex_but (((e1.trans e2).trans e3).trans e4) hp0 kp) ?_ rfl))
      rw [hp5, show v5 = _ from ev5, show v6 = _ from ev6, isI_set, isI_set]
      rfl
end
end W47
namespace W47
open PySem PySem.Spec PyProof.Rows L2 Evl C47
theorem ok_n {k : Kd} (h : k.ok) : 1 ≤ k.n ∧ (k.nm = .ring → 2 ≤ k.n) := by
  unfold Kd.ok at h
  refine ⟨?_, fun z => ?_⟩
  · split at h <;> omega
  · rw [z] at h; exact h
theorem stepL_len (k : Kd) (o : List Int) (g : Nat) : (stepL k o g).length = o.length := by
  unfold stepL
  split
  · split
    · simp
    · exact swapAt_len _ _
  · split
    · simp
    · exact swapAt_len _ _
  · exact swapAt_len _ _
/-! ### crossings, place by place -/
def crsUp (k : Kd) (o : List Int) : Nat → Nat
  | 0 => 0
  | n + 1 => crsUp k o n + ((o.drop (n + 1)).map (btw k (gi o n))).sum + neg1 k (gi o n)
theorem crsUp_add (k : Kd) (o : List Int) : ∀ n, n ≤ o.length → crsUp k o n + crs k (o.drop n) = crs k o
  | 0, _ => by show 0 + crs k (o.drop 0) = crs k o; rw [List.drop_zero, Nat.zero_add]
  | n + 1, h => by
    have ih := crsUp_add k o n (by omega)
    rw [List.drop_eq_getElem_cons (show n < o.length by omega)] at ih
    simp only [crs] at ih
    show crsUp k o n + ((o.drop (n + 1)).map (btw k (gi o n))).sum + neg1 k (gi o n) + crs k (o.drop (n + 1)) = crs k o
    rw [gi_lt (by omega)]
    omega
theorem crsUp_all (k : Kd) (o : List Int) : crsUp k o o.length = crs k o := by
  have := crsUp_add k o o.length (Nat.le_refl _)
  rw [List.drop_length] at this
  simp only [crs] at this
  omega
section
variable {X : Cx} {σ : L2.St} {H H' : Hp} {a e : Expr} {es : List Expr} {P P' : PV} {pos p : Pos} {x v : V} {rest body : List Stmt} {D : Ends} {n m : Str}
/-- for i, x in enumerate(xs) -/
theorem vs_forE {u : V} {xs : List V} {i j : Nat} {p1 p2 pt pe pc : Pos} {kt} (hN : X.N.Nodup) (hm : X.mg "enumerate" = none) (h : VE X a σ H u) (hx : isL X.K xs u H) (Pv : Nat → L2.St → Hp → Prop) (h0 : ∀ H1, Ex H H1 → Pv 0 σ H1) (hl : ∀ z σ' H', Pv z σ' H' → Ex H H')
    (hs : ∀ (z : Nat) x σ' H', xs[z]? = some x → Pv z σ' H' → ∀ H1, Ex H' H1 → VS X body { D with nx := Pv (z + 1), ct := Pv (z + 1), bk := fun σ' H' => VS X rest D σ' H' } ((σ'.set i (some (.int (z : Int)))).set j (some x)) H1) (hd : ∀ σ' H', Pv xs.length σ' H' → VS X rest D σ' H')
    (hp : PassesOwn (model X.prog X.w) X.A X.env X.xe := by exact PassesOwn.never) (hc : X.calm = true := by rfl) (hi : X.N[i]? = some n := by rfl) (hj : X.N[j]? = some m := by rfl) (hxl : Loc X.env.scope n := by first | exact Or.inl rfl | exact Or.inr rfl) (hyl : Loc X.env.scope m := by first | exact Or.inl rfl | exact Or.inr rfl)
    (hf : X.fn n = true ∨ X.env.scope.names.lookup n = some .local := by first | exact .inl rfl | exact .inr rfl) (hf2 : X.fn m = true ∨ X.env.scope.names.lookup m = some .local := by first | exact .inl rfl | exact .inr rfl) (hg : Gl X "enumerate" := by rfl) (hst : starEach [a] X.env = [(false, eval a X.env)] := by rfl)
    (q1 : (assignEach [.Name n p1, .Name m p2] X.env).map (·.2) = assign (.Name n p1) X.env :: (assignEach [.Name m p2] X.env).map (·.2) := by rfl) (q2 : (assignEach [.Name m p2] X.env).map (·.2) = assign (.Name m p2) X.env :: (assignEach [] X.env).map (·.2) := by rfl)
    (hn : (assignEach [.Name n p1, .Name m p2] X.env).length = 2 := by rfl) (hfi : (assignEach [.Name n p1, .Name m p2] X.env).findIdx? (·.1) = none := by rfl)
    (hit : ∀ x, foldedSetIterable (.Call (.Name "enumerate" pe) [a] [] pc) X.env x = pure x := by intro _; rfl) : VS X (.For (.Tuple [.Name n p1, .Name m p2] kt pt) (.Call (.Name "enumerate" pe) [a] [] pc) body [] pos :: rest) D σ H := by
  refine vs_cons (ps_for hp hc (pi_enum hg hm pa_any hst) (pg_tup hc (pgs_cons (pg_name hN hi hxl hf) (pgs_cons (pg_name hN hj hyl hf2) pgs_nil q2) q1) hn hfi) pss_any hit) ((va1 h stb_is hst).here fun vs H1 e1 ⟨v, e, ev⟩ => ?_)
  obtain ⟨q, eq, hq⟩ := hx
  subst eq
  refine ⟨q, xs, by rw [e, show v = .ref q from ev], ex_l e1 hq, fun z m σ H' => m = xs.length - z ∧ z ≤ xs.length ∧ Pv z σ H', ⟨xs.length, by simp, Nat.zero_le _, h0 H1 e1⟩, ?_⟩
  rintro z m σ' H' ⟨rfl, hz, pz⟩
  have hq' := ex_l (hl z σ' H' pz) hq
  by_cases hlt : z < xs.length
  · refine .inr ⟨⟨xs, xs[z], hq', by simp [hlt]⟩, Pv (z + 1), fun σ2 H2 p' => ⟨xs.length - (z + 1), by omega, rfl, hlt, p'⟩, fun x H2 y => ?_⟩
    obtain ⟨T, x', rfl, hT, rfl, hx'⟩ := y
    exact ⟨T, _, rfl, SqT.of upd_same, rfl, _, _, rfl, _, _, rfl, rfl, hs z x' σ' H' (hx' xs hq') pz _ (Ex.new hT)⟩
  · have e0 : z = xs.length := by omega
    subst e0
    exact .inl ⟨⟨xs, hq', Nat.le_refl _⟩, hd σ' H' pz⟩
/-- xs[::-1] -/
theorem vn_rev {xs : List V} {k} {p1 p2 p3 : Pos} (ha : VN X a σ H (isL X.K xs)) : VN X (.Subscript a (.Slice none none (some (.UnaryOp .USub (.Constant (.int 1) k p1) p2)) p3) pos) σ H (newL H xs.reverse) :=
  vn_by (pe_revL pe_any) fun H1 e1 Q q => ha H1 e1 _ fun v H2 e2 ⟨l, ev, hl⟩ => ⟨l, xs, ev, hl, fun p hp => q _ _ (e2.trans (Ex.new hp)) ⟨p, rfl, fresh_back (e1.trans e2) hp, upd_same⟩⟩
end
section
variable {P : Program} {w : World} {K : PySem.W.Frag} {mg : Str → Option Value} {base : Heap} {C : Addr}
/-- falls_of -/
abbrev prFalls (K : PySem.W.Frag) (C : Addr) : Pr := fun vs H P => ∃ v u k o, vs = [v, u] ∧ KAt C k v H ∧ isL K (isI o) u H ∧ o.length = k.n ∧ 1 ≤ k.n ∧ k.n ≤ 7 ∧ P = newL H (isN (falls k o))
theorem sc15 : FnScope ["kind", "order", "step"] ["kind", "order"] (defScope (top 15)) := ⟨rfl, rfl, rfl, by decide +kernel, rfl, by decide +kernel, by decide +kernel⟩
theorem filter_succ (p : Nat → Bool) (n : Nat) : (List.range (n + 1)).filter p = (List.range n).filter p ++ if p n then [n] else [] := by
  rw [List.range_succ, List.filter_append]
  cases h : p n <;> simp [h]
theorem df_falls (F : FnP K mg "falls_of" (top 15)) (M : KM P w K mg base C) (B : Bl mg) (D1 : DF P w K mg base "is_crossed" 2 ["kind", "order", "step"] (spOf (prCr (K := K) C))) : DF P w K mg base "falls_of" 3 ["kind", "order"] (spOf (prFalls K C)) := by
  refine df_mk F sc15 (fun vs H P ⟨v, u, k, o, e, _⟩ => by rw [e]; rfl) (fun _ _ _ _ _ _ us hl => match us, hl with | [_, _], _ => rfl) ?_
  rintro f cdv A outer s H vs R E hr ⟨v, u, k, o, rfl, hv, hu, hl, hn, hn7, rfl⟩
  have hsz := steps_le k
  refine vs_ret (vn_lcR1 (i := 2) (fun D j acc H' => acc = isN ((List.range j).filter (crossedB k o))) sc15.nd B.range (ve_steps M (hr.mono (by decide)) hn (kv (i := 0) hv (lv 0))) (by omega) (blkOk_by (own := [("step", 2)]) (N := ["kind", "order", "step"]) (sc := defScope (top 15)) (by decide +kernel)) (fun _ _ _ _ _ => pg_name (i := 2) sc15.nd rfl (Or.inl rfl)) (fun _ => rfl) (fun _ _ _ _ => rfl) ?_) ?_
  · intro D j acc H' hD e hd hj hR
    subst hR
    have hv' := stb_K _ _ _ e hv
    have hu' := stb_isL _ _ _ e hu
    refine ⟨crossedB k o j, Is (.int (j : Int)), fun _ _ _ _ _ => vts_one (vt_val (vn_call D1 hr (va3 (kv (i := 0) hv' (lv 0)) (llv hu' (lv 1)) (lv 2) stb_K stb_isL stb_is) (by
      rintro _ H1 e1 ⟨x, y, _, rfl, hx, hy, rfl⟩
      exact ⟨_, ⟨x, y, k, o, j, rfl, hx, hy, hl, by omega, rfl⟩, fun u H2 e2 eu => eu⟩))), fun hc => ⟨fun _ _ _ _ _ => lv 2, fun v1 H1 _ ev => ?_⟩, fun hc H1 _ => ?_⟩
    · rw [show v1 = _ from ev, filter_succ, hc, if_pos rfl]
      simp [isN]
    · rw [filter_succ, hc]
      simp
  · rintro v1 H1 e1 ⟨D, acc, rfl, hD, hd, hR⟩
    refine ⟨e1, D, rfl, hD, ?_⟩
    rw [hd, hR]
    rfl
/-- crossings_between -/
abbrev prBet (C : Addr) : Pr := fun vs H P => ∃ (v : V) (k : Kd) (lo hi : Int), vs = [v, .int (k.n : Int), .int lo, .int hi] ∧ KAt C k v H ∧ 1 ≤ k.n ∧ k.n ≤ 7 ∧ P = Is (.int (btw k lo hi : Nat))
theorem sc17 : FnScope ["kind", "size", "low", "high"] ["kind", "size", "low", "high"] (defScope (top 17)) := ⟨rfl, rfl, rfl, by decide +kernel, rfl, by decide +kernel, by decide +kernel⟩
theorem df_bet (F : FnP K mg "crossings_between" (top 17)) (M : KM P w K mg base C) (B : Bl mg) : DF P w K mg base "crossings_between" 2 ["kind", "size", "low", "high"] (spOf (prBet C)) := by
  refine df_mk F sc17 (fun vs H P ⟨v, k, lo, hi, e, _⟩ => by rw [e]; rfl) (fun _ _ _ _ _ _ us hl => match us, hl with | [_, _, _, _], _ => rfl) ?_
  rintro f cdv A outer s H vs R E hr ⟨v, k, lo, hi, rfl, hv, hn, hn7, rfl⟩
  refine vs_ifret (c := decide (k.nm = .ring)) (P := Is (.int (btw k lo hi : Nat))) (VT.to (vt_eq (ve_name M hr (kv (i := 0) hv (lv 0))) ve_str) (nm_ring k)) (fun hm => ?_) (fun _ v H1 e1 p => ⟨e1, p⟩) fun hm H1 e1 => ?_
  · have hm : k.nm = .ring := of_decide_eq_true hm
    refine VE.to (ve_abs B.abs (ve_div (j := (k.n : Int)) (by omega) (ve_sub (lv 3) (lv 2)) (lv 1))) ?_
    unfold btw absI
    rw [hm]
    congr 1
    show (if (hi - lo) / (k.n : Int) < 0 then _ else _) = (((hi - lo) / (k.n : Int)).natAbs : Int)
    split <;> omega
  · have hm : ¬ k.nm = .ring := of_decide_eq_false hm
    have hv1 := stb_K _ _ _ e1 hv
    refine vs_ret (VE.to (y := .int (btw k lo hi : Nat)) (ve_add (ve_intb B.int (ve_gt (lv 2) (lv 3))) (ve_intb B.int (ve_and (VE.to (y := .bl (decide (k.nm = .mirror))) (ve_eq (ve_name M hr (kv (i := 0) hv1 (lv 0))) ve_str) (by rw [nm_mirror])) fun _ => ve_one (ve_lt (ve_add (lv 2) (lv 3)) ve_int)))) ?_) fun v H2 e2 p => ⟨e1.trans e2, p⟩
    congr 1
    unfold btw
    cases hk : k.nm with
    | ring => exact absurd hk hm
    | mirror =>
      by_cases h1 : hi < lo <;> by_cases h2 : lo + hi < 0 <;> simp [h1, h2]
    | plain =>
      by_cases h1 : hi < lo <;> simp [h1]
/-- crossings_of -/
abbrev prCrs (K : PySem.W.Frag) (C : Addr) : Pr := fun vs H P => ∃ v u k o, vs = [v, u] ∧ KAt C k v H ∧ isL K (isI o) u H ∧ o.length = k.n ∧ 1 ≤ k.n ∧ k.n ≤ 7 ∧ P = Is (.int (crs k o : Nat))
theorem sc16 : FnScope ["kind", "order", "found", "at", "low", "high"] ["kind", "order"] (defScope (top 16)) := ⟨rfl, rfl, rfl, by decide +kernel, rfl, by decide +kernel, by decide +kernel⟩
theorem cutV_drop (xs : List V) (n : Nat) (h : n ≤ xs.length) : cutV xs (some (n : Int)) none = xs.drop n := by
  unfold cutV
  have e1 : HT.sIx xs.length 0 (some (n : Int)) = n := by rw [HT.sIx_nat]; omega
  have e2 : HT.sIx xs.length xs.length none = xs.length := rfl
  rw [e1, e2]
  rw [List.take_of_length_le (by rw [List.length_drop]; exact Nat.le_refl _)]
end
end W47
namespace W47
open PySem PySem.Spec PyProof.Rows L2 Evl C47
section
variable {P : Program} {w : World} {K : PySem.W.Frag} {mg : Str → Option Value} {base : Heap} {C : Addr}
theorem sum_take_succ (f : Int → Nat) (l : List Int) (j : Nat) (h : j < l.length) : ((l.take (j + 1)).map f).sum = ((l.take j).map f).sum + f (gi l j) := by
  rw [List.take_succ, List.getElem?_eq_getElem h, gi_lt h, List.map_append, List.sum_append_nat]
  rfl
theorem isI_get {o : List Int} {j : Nat} {x : V} (h : (isI o)[j]? = some x) : j < o.length ∧ x = .int (gi o j) := by
  obtain ⟨hl, e⟩ := List.getElem?_eq_some_iff.mp h
  rw [isI_len] at hl
  refine ⟨hl, ?_⟩
  rw [← e, gi_lt hl, List.getElem_map]
theorem isN_get {o : List Nat} {j : Nat} {x : V} (h : (isN o)[j]? = some x) : ∃ hl : j < o.length, x = .int ((o[j] : Nat) : Int) := by
  obtain ⟨hl, e⟩ := List.getElem?_eq_some_iff.mp h
  rw [List.length_map] at hl
  exact ⟨hl, by rw [← e, List.getElem_map]⟩
theorem df_crs (F : FnP K mg "crossings_of" (top 16)) (M : KM P w K mg base C) (B : Bl mg) (D1 : DF P w K mg base "crossings_between" 2 ["kind", "size", "low", "high"] (spOf (prBet C))) : DF P w K mg base "crossings_of" 3 ["kind", "order"] (spOf (prCrs K C)) := by
  refine df_mk F sc16 (fun vs H P ⟨v, u, k, o, e, _⟩ => by rw [e]; rfl) (fun _ _ _ _ _ _ us hl => match us, hl with | [_, _], _ => rfl) ?_
  rintro f cdv A outer s H vs R E hr ⟨v, u, k, o, rfl, hv, hu, hl, hn, hn7, rfl⟩
  refine vs_set (i := 2) sc16.nd ve_int fun _ H1 e1 ev => ?_
  cases ev
  have hu1 := stb_isL _ _ _ e1 hu
  refine vs_forE (i := 3) (j := 4) sc16.nd B.enum (lv 1) hu1 (fun z σ' H' => ∃ a b c, σ' = [some v, some u, some (.int (crsUp k o z : Nat)), a, b, c] ∧ Ex H1 H') (fun H2 e2 => ⟨none, none, none, rfl, e2⟩) (fun _ _ _ ⟨_, _, _, _, e⟩ => e) ?_ ?_
  · rintro z x σ' H' hz ⟨a, b, c, rfl, e⟩ H2 e2
    obtain ⟨hzl, rfl⟩ := isI_get hz
    have hu2 := stb_isL _ _ _ (e.trans e2) hu1
    have hv2 := stb_K _ _ _ (e1.trans (e.trans e2)) hv
    -- for high in order[at + 1:]
    refine vs_forN (i := 5) sc16.nd (vn_sl (llv hu2 (lv 1)) (po_some pe_any) po_none ((ve_add (lv 3) ve_int : VE _ _ _ _ (.int ((z : Int) + 1))).ev) eo_none)
      (fun v' xs j σ' H3 => xs = isI (o.drop (z + 1)) ∧ isL K xs v' H3 ∧ Ex H2 H3 ∧ ∃ c, σ' = [some v, some u, some (.int ((crsUp k o z + (((o.drop (z + 1)).take j).map (btw k (gi o z))).sum : Nat) : Int)), some (.int (z : Int)), some (.int (gi o z)), c]) ?_ ?_ ?_ ?_
    · rintro v' H3 e3 ⟨q, rfl, hq0, hq⟩
      have ec : cutV (isI o) (some ((z : Int) + 1)) none = isI (o.drop (z + 1)) := by
        have := cutV_drop (isI o) (z + 1) (by rw [isI_len]; omega)
        rw [show ((z + 1 : Nat) : Int) = (z : Int) + 1 by omega] at this
        rw [this]
        exact List.map_drop.symm
      rw [ec] at hq
      exact ⟨q, _, rfl, sq_of hq, rfl, ⟨q, rfl, sq_of hq⟩, e3, c, by simp⟩
    · rintro a' xs j σ' H3 _ ⟨rfl, ⟨q, eq, hq⟩, _⟩
      cases eq
      exact hq
    · rintro v' xs j x σ' H3 hj ⟨rfl, hq, e3, c', rfl⟩
      obtain ⟨hjl, rfl⟩ := isI_get hj
      have hv3 := stb_K _ _ _ e3 hv2
      have hu3 := stb_isL _ _ _ e3 hu2
      refine vs_set (i := 2) sc16.nd (ve_add (lv 2) (vn_call D1 hr (va4 (kv (i := 0) hv3 (lv 0)) (ve_len B.len (llv hu3 (lv 1))) (lv 4) (lv 5) stb_K stb_is stb_is stb_is) (P := Is (.int (btw k (gi o z) (gi (o.drop (z + 1)) j) : Nat))) (by
        rintro _ H4 e4 ⟨x, _, _, _, rfl, hx, rfl, rfl, rfl⟩
        exact ⟨_, ⟨x, k, _, _, by rw [isI_len, hl], hx, hn, hn7, rfl⟩, fun u H2 e2 eu => eu⟩))) fun v4 H4 e4 ev4 => ?_
      cases ev4
      refine vs_nil ⟨rfl, stb_isL _ _ _ e4 hq, e3.trans e4, some (.int (gi (o.drop (z + 1)) j)), ?_⟩
      rw [sum_take_succ _ _ _ hjl]
      show [some v, some u, some (V.int _), _, _, _] = [some v, some u, some (V.int _), _, _, _]
      congr 4
      exact congrArg V.int (by omega)
    · rintro v' xs σ' H3 ⟨rfl, hq, e3, c', rfl⟩
      have hv3 := stb_K _ _ _ e3 hv2
      refine vs_set (i := 2) sc16.nd (ve_add (lv 2) (ve_intb B.int (ve_and (VE.to (y := .bl (decide (k.nm = .mirror))) (ve_eq (ve_name M (hr.mono (by decide)) (kv (i := 0) hv3 (lv 0))) ve_str) (by rw [nm_mirror])) fun _ => ve_one (ve_lt (lv 4) ve_int)))) fun v4 H4 e4 ev4 => ?_
      cases ev4
      refine vs_nil ⟨some (.int (z : Int)), some (.int (gi o z)), c', ?_, e.trans (e2.trans (e3.trans e4))⟩
      show [some v, some u, some (V.int _), _, _, _] = [some v, some u, some (V.int _), _, _, _]
      congr 4
      refine congrArg V.int ?_
      rw [isI_len, List.take_length]
      show _ = ((crsUp k o z + ((o.drop (z + 1)).map (btw k (gi o z))).sum + neg1 k (gi o z) : Nat) : Int)
      unfold neg1
      cases k.nm <;> by_cases h : gi o z < 0 <;> simp [h]
  · rintro σ' H' ⟨a, b, c, rfl, e⟩
    refine vs_ret (VE.to (lv 2) ?_) fun v2 H2 e2 ev => ⟨e1.trans (e.trans e2), ev⟩
    rw [isI_len, crsUp_all]
/-- made_by -/
abbrev prMade (K : PySem.W.Frag) (C : Addr) : Pr := fun vs H P => ∃ v u k row, vs = [v, u] ∧ KAt C k v H ∧ isL K (isN row) u H ∧ C47.Row k row ∧ k.ok ∧ k.n ≤ 7 ∧ P = newL H (isI (made k row))
theorem sc24 : FnScope ["kind", "row", "found", "step"] ["kind", "row"] (defScope (top 24)) := ⟨rfl, rfl, rfl, by decide +kernel, rfl, by decide +kernel, by decide +kernel⟩
theorem made_len (k : Kd) (row : List Nat) : (made k row).length = k.n := by
  have : ∀ (r : List Nat) (o : List Int), (r.foldl (stepL k) o).length = o.length := by
    intro r
    induction r with
    | nil => intro o; rfl
    | cons g r ih => intro o; rw [List.foldl_cons, ih, stepL_len]
  unfold made
  rw [this]
  exact irange_len _ _
theorem made_take (k : Kd) (row : List Nat) (j : Nat) (h : j < row.length) : made k (row.take (j + 1)) = stepL k (made k (row.take j)) row[j] := by
  unfold made
  rw [List.take_succ, List.getElem?_eq_getElem h, List.foldl_append]
  rfl
theorem df_made (F : FnP K mg "made_by" (top 24)) (M : KM P w K mg base C) (D1 : DF P w K mg base "by_step" 2 ["kind", "order", "step"] (spOf (prSt K C))) : DF P w K mg base "made_by" 3 ["kind", "row"] (spOf (prMade K C)) := by
  refine df_mk F sc24 (fun vs H P ⟨v, u, k, row, e, _⟩ => by rw [e]; rfl) (fun _ _ _ _ _ _ us hl => match us, hl with | [_, _], _ => rfl) ?_
  rintro f cdv A outer s H vs R E hr ⟨v, u, k, row, rfl, hv, hu, hrow, hk, hn7, rfl⟩
  obtain ⟨hn, hr2⟩ := ok_n hk
  refine vs_set (i := 2) sc24.nd (vn_start M (hr.mono (by decide)) hn7 (kv (i := 0) hv (lv 0))) fun p0 H1 e1 hp0 => ?_
  obtain ⟨q, rfl, hq⟩ := hu
  refine vs_forL (i := 3) sc24.nd (lv 1) (ex_l e1 hq) (fun j σ' H' => ∃ p c, σ' = [some v, some (.ref q), some p, c] ∧ newL H (isI (made k (row.take j))) p H' ∧ Ex H1 H') (fun H2 e2 => ⟨p0, none, rfl, stb_newL _ _ _ e2 hp0, e2⟩) (fun j σ' H' _ ⟨_, _, _, _, e⟩ => ex_l (e1.trans e) hq) ?_ ?_
  · rintro j x σ' H' hj ⟨p, c, rfl, hp, e⟩
    obtain ⟨hjl, rfl⟩ := isN_get hj
    have hv' := stb_K _ _ _ (e1.trans e) hv
    refine vs_set (i := 2) sc24.nd (vn_call D1 hr (va3 (kv (i := 0) hv' (lv 0)) (llv (hp.l (K := K)) (lv 2)) (lv 3) stb_K stb_isL stb_is) (P := newL H (isI (made k (row.take (j + 1))))) (by
      rintro _ H2 e2 ⟨x, y, _, rfl, hx, hy, rfl⟩
      refine ⟨_, ⟨x, y, k, _, _, rfl, hx, hy, made_len _ _, hrow _ (List.getElem_mem hjl), hn7, hr2, rfl⟩, fun u H3 e3 eu => ?_⟩
      rw [made_take k row j hjl]
      exact eu.back ((e1.trans e).trans e2))) fun p2 H2 e2 hp2 => vs_nil ⟨p2, _, rfl, hp2, e.trans e2⟩
  · rintro σ' H' ⟨p, c, rfl, hp, e⟩
    refine vs_ret (lv 2 : VE _ _ _ _ p) fun v2 H2 e2 ev => ⟨e1.trans (e.trans e2), ?_⟩
    rw [List.length_map, List.take_length] at hp
    rw [show v2 = p from ev]
    exact stb_newL _ _ _ e2 hp
end
end W47
namespace W47
open PySem PySem.Spec PyProof.Rows L2 Evl C47
/-! ### data: shapes, equality -/
def Sh (n : Nat) (d : PyData) : Prop := d.canLay0 = true ∧ d.depth ≤ n
theorem Sh.s {n : Nat} {d : PyData} (h : Sh n d) (hn : n ≤ 64 := by decide) : SeqAt.shaped d = true := by
  show (d.canLay0 && decide (d.depth ≤ 64)) = true
  rw [h.1, decide_eq_true (Nat.le_trans h.2 hn)]; rfl
theorem Sh.mono {n m : Nat} {d : PyData} (h : Sh n d) (hm : n ≤ m) : Sh m d := ⟨h.1, Nat.le_trans h.2 hm⟩
theorem sh_int (i : Int) : Sh 0 (.int i) := ⟨by simp [PyData.canLay0], by simp [PyData.depth]⟩
theorem sh_bool (i : Bool) : Sh 0 (.bool i) := ⟨by simp [PyData.canLay0], by simp [PyData.depth]⟩
theorem sh_none : Sh 0 .none := ⟨by simp [PyData.canLay0], by simp [PyData.depth]⟩
theorem shAll {n : Nat} : ∀ {ds : List PyData}, (∀ d ∈ ds, Sh n d) → PyData.canLayAll0 ds = true ∧ PyData.depthAll ds ≤ n
  | [], _ => ⟨by simp [PyData.canLayAll0], by simp [PyData.depthAll]⟩
  | d :: ds, h => by
    obtain ⟨h1, h2⟩ := shAll fun x hx => h x (List.mem_cons_of_mem _ hx)
    obtain ⟨g1, g2⟩ := h d List.mem_cons_self
    refine ⟨by simp [PyData.canLayAll0, g1, h1], ?_⟩
    simp only [PyData.depthAll]
    omega
theorem sh_list {n : Nat} {ds : List PyData} (h : ∀ d ∈ ds, Sh n d) : Sh (n + 1) (.list ds) := by
  obtain ⟨h1, h2⟩ := shAll h
  exact ⟨by simpa [PyData.canLay0] using h1, by simp only [PyData.depth]; omega⟩
theorem sh_tuple {n : Nat} {ds : List PyData} (h : ∀ d ∈ ds, Sh n d) : Sh (n + 1) (.tuple ds) := by
  obtain ⟨h1, h2⟩ := shAll h
  exact ⟨by simpa [PyData.canLay0] using h1, by simp only [PyData.depth]; omega⟩
theorem sh_dL (o : List Int) : Sh 1 (dL o) := sh_list fun d hd => by
  obtain ⟨i, _, rfl⟩ := List.mem_map.mp hd
  exact sh_int i
theorem eqvAll_ints : ∀ a b : List Int, PyData.eqvAll (a.map .int) (b.map .int) = decide (a = b)
  | [], [] => by simp [PyData.eqvAll]
  | [], _ :: _ => by simp [PyData.eqvAll]
  | _ :: _, [] => by simp [PyData.eqvAll]
  | x :: a, y :: b => by
    simp only [List.map_cons, PyData.eqvAll, PyData.eqv, eqvAll_ints a b, List.cons.injEq]
    by_cases h : x = y <;> simp [h]
theorem eqv_dL (a b : List Int) : PyData.eqv (dL a) (dL b) = decide (a = b) := by
  rw [PyData.eqv, eqvAll_ints]
theorem eqv_nil (ds : List PyData) : PyData.eqv (.list ds) (.list []) = decide (ds = []) := by
  cases ds <;> simp [PyData.eqv, PyData.eqvAll]
/-- a list of numbers of steps -/
def nI (l : List Nat) : List Int := l.map fun (g : Nat) => (g : Int)
theorem isN_eq (l : List Nat) : isN l = isI (nI l) := by simp [isN, isI, nI]
theorem nI_nil {l : List Nat} : nI l = [] ↔ l = [] := by simp [nI]
theorem Dp.nil {K : PySem.W.Frag} {H : Hp} {v : V} (h : isL K [] v H) : Dp K H v (.list []) := by
  obtain ⟨p, rfl, h⟩ := h
  exact .lst h .nil
section
variable {X : Cx} {σ : L2.St} {H H' : Hp} {a b e : Expr} {es : List Expr} {P P' : PV} {pos p : Pos} {x v : V} {rest body : List Stmt} {D : Ends} {n m : Str}
/-- xs != [], xs a list of data -/
theorem vt_ne0 {ds : List PyData} {N : Nat} (hu : X.A.units + 64 < cLine) (ha : VN X a σ H (isD X.K (.list ds))) (hs : ∀ d ∈ ds, Sh N d) (hN : N ≤ 60 := by decide) : VT X (.Compare a [.NotEq] [.List [] p] pos) σ H (!decide (ds = [])) :=
  VT.to (vt_neD hu ha (vn_nil.imp fun v H' _ h => Dp.nil (h.l)) ((sh_list hs).s (by omega)) ((sh_list (n := 0) (ds := []) (fun d hd => by cases hd)).s)) (by rw [eqv_nil])
theorem vt_eq0 {ds : List PyData} {N : Nat} (hu : X.A.units + 64 < cLine) (ha : VN X a σ H (isD X.K (.list ds))) (hs : ∀ d ∈ ds, Sh N d) (hN : N ≤ 60 := by decide) : VT X (.Compare a [.Eq] [.List [] p] pos) σ H (decide (ds = [])) :=
  VT.to (vt_eqD hu ha (vn_nil.imp fun v H' _ h => Dp.nil (h.l)) ((sh_list hs).s (by omega)) ((sh_list (n := 0) (ds := []) (fun d hd => by cases hd)).s)) (by rw [eqv_nil])
theorem ve_eq0 {ds : List PyData} {N : Nat} (hu : X.A.units + 64 < cLine) (ha : VN X a σ H (isD X.K (.list ds))) (hs : ∀ d ∈ ds, Sh N d) (hN : N ≤ 60 := by decide) : VE X (.Compare a [.Eq] [.List [] p] pos) σ H (.bl (decide (ds = []))) :=
  VE.to (ve_eqD hu ha (vn_nil.imp fun v H' _ h => Dp.nil (h.l)) ((sh_list hs).s (by omega)) ((sh_list (n := 0) (ds := []) (fun d hd => by cases hd)).s)) (by rw [eqv_nil])
/-- steps != [] -/
theorem vt_neN {l : List Nat} (hu : X.A.units + 64 < cLine) (ha : VN X a σ H (isL X.K (isN l))) : VT X (.Compare a [.NotEq] [.List [] p] pos) σ H (!decide (l = [])) :=
  VT.to (vt_ne0 (ds := (nI l).map .int) (N := 0) hu (ha.imp fun v H' _ h => by rw [isN_eq] at h; exact h.d) (fun d hd => by obtain ⟨i, _, rfl⟩ := List.mem_map.mp hd; exact sh_int i)) (by simp [nI])
theorem vt_eqL {o o' : List Int} (hu : X.A.units + 64 < cLine) (ha : VN X a σ H (isL X.K (isI o))) (hb : VN X b σ H (isL X.K (isI o'))) : VT X (.Compare a [.Eq] [b] pos) σ H (decide (o = o')) :=
  VT.to (vt_eqD hu (ha.imp fun _ _ _ h => h.d) (hb.imp fun _ _ _ h => h.d) (sh_dL _).s (sh_dL _).s) (eqv_dL _ _)
theorem ve_eqL {o o' : List Int} (hu : X.A.units + 64 < cLine) (ha : VN X a σ H (isL X.K (isI o))) (hb : VN X b σ H (isL X.K (isI o'))) : VE X (.Compare a [.Eq] [b] pos) σ H (.bl (decide (o = o'))) :=
  VE.to (ve_eqD hu (ha.imp fun _ _ _ h => h.d) (hb.imp fun _ _ _ h => h.d) (sh_dL _).s (sh_dL _).s) (by rw [eqv_dL])
theorem vt_neL {o o' : List Int} (hu : X.A.units + 64 < cLine) (ha : VN X a σ H (isL X.K (isI o))) (hb : VN X b σ H (isL X.K (isI o'))) : VT X (.Compare a [.NotEq] [b] pos) σ H (!decide (o = o')) :=
  VT.to (vt_neD hu (ha.imp fun _ _ _ h => h.d) (hb.imp fun _ _ _ h => h.d) (sh_dL _).s (sh_dL _).s) (by rw [eqv_dL])
end
section
variable {P : Program} {w : World} {K : PySem.W.Frag} {mg : Str → Option Value} {base : Heap} {C : Addr}
/-- lesser -/
abbrev prLes (K : PySem.W.Frag) (C : Addr) : Pr := fun vs H P => ∃ v u k o g, vs = [v, u, .int ((g : Nat) : Int)] ∧ KAt C k v H ∧ isL K (isI o) u H ∧ o.length = k.n ∧ g < k.steps ∧ k.n ≤ 7 ∧ (k.nm = .ring → 2 ≤ k.n) ∧ P = isL K (isI (lesserL k o g))
theorem sc27 : FnScope ["kind", "order", "step"] ["kind", "order", "step"] (defScope (top 27)) := ⟨rfl, rfl, rfl, by decide +kernel, rfl, by decide +kernel, by decide +kernel⟩
theorem df_lesser (F : FnP K mg "lesser" (top 27)) (D1 : DF P w K mg base "is_crossed" 2 ["kind", "order", "step"] (spOf (prCr (K := K) C))) (D2 : DF P w K mg base "by_step" 2 ["kind", "order", "step"] (spOf (prSt K C))) : DF P w K mg base "lesser" 3 ["kind", "order", "step"] (spOf (prLes K C)) := by
  refine df_mk F sc27 (fun vs H P ⟨v, u, k, o, g, e, _⟩ => by rw [e]; rfl) (fun _ _ _ _ _ _ us hl => match us, hl with | [_, _, _], _ => rfl) ?_
  rintro f cdv A outer s H vs R E hr ⟨v, u, k, o, g, rfl, hv, hu, hl, hg, hn7, hr2, rfl⟩
  refine vs_ret (P := isL K (isI (lesserL k o g))) (vn_if (c := crossedB k o g) (vt_val (vn_call D1 hr (va3 (kv (i := 0) hv (lv 0)) (llv hu (lv 1)) (lv 2) stb_K stb_isL stb_is) (by
    rintro _ H1 e1 ⟨x, y, _, rfl, hx, hy, rfl⟩
    exact ⟨_, ⟨x, y, k, o, g, rfl, hx, hy, hl, hg, rfl⟩, fun u H2 e2 eu => eu⟩))) (fun hc => vn_call D2 hr (va3 (kv (i := 0) hv (lv 0)) (llv hu (lv 1)) (lv 2) stb_K stb_isL stb_is) (by
    rintro _ H1 e1 ⟨x, y, _, rfl, hx, hy, rfl⟩
    refine ⟨_, ⟨x, y, k, o, g, rfl, hx, hy, hl, hg, hn7, hr2, rfl⟩, fun u H2 e2 eu => ?_⟩
    unfold lesserL
    rw [if_pos hc]
    exact eu.l)) fun hc => (llv hu (lv 1)).imp fun v' H' _ h => ?_) fun v' H1 e1 h => ⟨e1, h⟩
  unfold lesserL
  rw [if_neg (by rw [hc]; decide)]
  exact h
theorem lesserL_len (k : Kd) (o : List Int) (g : Nat) : (lesserL k o g).length = o.length := by
  unfold lesserL; split
  · exact stepL_len _ _ _
  · rfl
/-- is_below -/
abbrev prBel (K : PySem.W.Frag) (C : Addr) : Pr := fun vs H P => ∃ v u1 u2 k o1 o2, vs = [v, u1, u2] ∧ KAt C k v H ∧ isL K (isI o1) u1 H ∧ isL K (isI o2) u2 H ∧ o1.length = k.n ∧ VL k o2 ∧ k.ok ∧ k.n ≤ 7 ∧ P = Is (.bl (bel k o1 o2))
theorem sc28 : FnScope ["kind", "one", "other", "low", "high", "falls"] ["kind", "one", "other"] (defScope (top 28)) := ⟨rfl, rfl, rfl, by decide +kernel, rfl, by decide +kernel, by decide +kernel⟩
theorem df_bel (F : FnP K mg "is_below" (top 28)) (M : KM P w K mg base C) (D1 : DF P w K mg base "falls_of" 3 ["kind", "order"] (spOf (prFalls K C))) (D2 : DF P w K mg base "lesser" 3 ["kind", "order", "step"] (spOf (prLes K C))) (D3 : DF P w K mg base "by_step" 2 ["kind", "order", "step"] (spOf (prSt K C))) : DF P w K mg base "is_below" 4 ["kind", "one", "other"] (spOf (prBel K C)) := by
  refine df_mk F sc28 (fun vs H P ⟨v, u1, u2, k, o1, o2, e, _⟩ => by rw [e]; rfl) (fun _ _ _ _ _ _ us hl => match us, hl with | [_, _, _], _ => rfl) ?_
  rintro f cdv A outer s H vs R E hr ⟨v, u1, u2, k, o1, o2, rfl, hv, hu1, hu2, hl1, hV, hk, hn7, rfl⟩
  obtain ⟨hn, hr2⟩ := ok_n hk
  have hu64 := hr.units
  refine vs_par (i := 3) (j := 4) sc28.nd (llv hu1 (lv 1)) (llv hu2 (lv 2)) stb_isL stb_isL fun lo hi H1 e1 hlo hhi => ?_
  have callF : ∀ {σ' : L2.St} {H' : Hp} {hi' : V} {w' : List Int} {pos p p1 p2 : Pos}, Ex H H' → isL K (isI w') hi' H' → VL k w' → σ'[0]? = some (some v) → σ'[4]? = some (some hi') →
      VN (cx P w K mg base ["kind", "one", "other", "low", "high", "falls"] "is_below" (defScope (top 28)) f cdv A outer s H E) (.Call (.Name "falls_of" p) [.Name "kind" p1, .Name "high" p2] [] pos) σ' H' (isL K (isN (falls k w'))) := fun {σ' H' hi' w' pos p p1 p2} e h hV' h0 h4 =>
    vn_call D1 (hr.mono (by decide)) (va2 (kv (i := 0) (stb_K _ _ _ e hv) (lv 0 h0)) (llv h (lv 4 h4)) stb_K stb_isL) (by
      rintro _ H2 e2 ⟨x, y, rfl, hx, hy⟩
      exact ⟨_, ⟨x, y, k, w', rfl, hx, hy, VL.len hV', hn, hn7, rfl⟩, fun u H3 e3 eu => eu.l⟩)
  refine vs_set (i := 5) sc28.nd (callF e1 hhi hV rfl rfl) fun fv H2 e2 hfv => ?_
  refine vs_while (fun m σ' H' => ∃ lo hi fv u' w', σ' = [some v, some u1, some u2, some lo, some hi, some fv] ∧ Ex H H' ∧ isL K (isI u') lo H' ∧ isL K (isI w') hi H' ∧ isL K (isN (falls k w')) fv H' ∧ u'.length = k.n ∧ VL k w' ∧ bel k u' w' = bel k o1 o2 ∧ m = crs k w') _ ⟨lo, hi, fv, o1, o2, rfl, e1.trans e2, stb_isL _ _ _ e2 hlo, stb_isL _ _ _ e2 hhi, hfv, hl1, hV, rfl, rfl⟩ ?_
  rintro m σ' H' ⟨lo, hi, fv, u', w', rfl, e, hlo, hhi, hfv, hl', hV', hb, rfl⟩
  refine ⟨!decide (falls k w' = []), vt_neN hu64 (llv hfv (lv 5)), fun hc H3 e3 => ?_, fun hc H3 e3 => ?_⟩
  · cases hf : falls k w' with
    | nil => rw [hf] at hc; simp at hc
    | cons g gs =>
      obtain ⟨g1, g2, g3, g4⟩ := falls_cons hk hV' hf false
      have g1 : g < k.steps := g1
      have g3 : VL k (stepL k w' g) := g3
      have g4 : crs k (stepL k w' g) + 1 = crs k w' := g4
      rw [hf] at hfv
      have hv3 := stb_K _ _ _ (e.trans e3) hv
      have hlo3 := stb_isL _ _ _ e3 hlo
      have hhi3 := stb_isL _ _ _ e3 hhi
      have hfv3 := stb_isL _ _ _ e3 hfv
      have at0 : atI (isN (g :: gs)) 0 = some (.int (g : Int)) := atI_nat (j := 0) rfl
      refine vs_par (i := 3) (j := 4) sc28.nd (vn_call D2 (hr.mono (by decide)) (va3 (kv (i := 0) hv3 (lv 0)) (llv hlo3 (lv 3)) (ve_ixL (llv hfv3 (lv 5)) ve_int at0) stb_K stb_isL stb_is) (P := isL K (isI (lesserL k u' g))) (by
          rintro _ H4 e4 ⟨x, y, _, rfl, hx, hy, rfl⟩
          exact ⟨_, ⟨x, y, k, u', g, rfl, hx, hy, hl', g1, hn7, hr2, rfl⟩, fun u H5 e5 eu => eu⟩))
        (vn_call D3 (hr.mono (by decide)) (va3 (kv (i := 0) hv3 (lv 0)) (llv hhi3 (lv 4)) (ve_ixL (llv hfv3 (lv 5)) ve_int at0) stb_K stb_isL stb_is) (P := isL K (isI (stepL k w' g))) (by
          rintro _ H4 e4 ⟨x, y, _, rfl, hx, hy, rfl⟩
          exact ⟨_, ⟨x, y, k, w', g, rfl, hx, hy, VL.len hV', g1, hn7, hr2, rfl⟩, fun u H5 e5 eu => eu.l⟩)) stb_isL stb_isL fun lo2 hi2 H4 e4 hlo2 hhi2 => ?_
      have e04 := (e.trans e3).trans e4
      refine vs_set (i := 5) sc28.nd (callF e04 hhi2 g3 rfl rfl) fun fv2 H5 e5 hfv2 => vs_nil ?_
      exact ⟨crs k (stepL k w' g), by omega, lo2, hi2, fv2, lesserL k u' g, stepL k w' g, rfl, e04.trans e5, stb_isL _ _ _ e5 hlo2, stb_isL _ _ _ e5 hhi2, hfv2, by rw [lesserL_len, hl'], g3, by rw [← hb, bel_cons hk hV' hf], rfl⟩
  · have hf : falls k w' = [] := by
      cases hf : falls k w' with
      | nil => rfl
      | cons g gs => rw [hf] at hc; simp at hc
    refine vs_ret (ve_eqL hu64 (llv (stb_isL _ _ _ e3 hlo) (lv 3)) ((vn_start M (hr.mono (by decide)) hn7 (kv (i := 0) (stb_K _ _ _ (e.trans e3) hv) (lv 0))).imp fun v' H'' _ h => h.l)) fun v4 H4 e4 ev => ⟨(e.trans e3).trans e4, ?_⟩
    rw [show v4 = _ from ev, ← hb, bel_nil hf]
end
end W47
namespace W47
open PySem PySem.Spec PyProof.Rows L2 Evl C47
/-! ### what an item of a value may be -/
def FlD (d : PyData) : Prop := (∃ i, d = .int i) ∨ ∃ b, d = .bool b
def ItD (d : PyData) : Prop := d = .none ∨ (∃ i, d = .int i) ∨ (∃ ds, d = .list ds ∧ ∀ x ∈ ds, FlD x) ∨ ∃ ds, d = .tuple ds ∧ ∀ x ∈ ds, FlD x
def intsOf : List PyData → Option (List Int)
  | [] => some []
  | .int i :: r => (intsOf r).map (i :: ·)
  | _ :: _ => none
def asO : PyData → Option (List Int)
  | .list ds => intsOf ds
  | _ => none
theorem intsOf_map : ∀ o : List Int, intsOf (o.map .int) = some o
  | [] => rfl
  | x :: o => by simp [intsOf, intsOf_map o]
theorem asO_dL (o : List Int) : asO (dL o) = some o := intsOf_map o
theorem intsOf_some : ∀ {ds : List PyData} {o : List Int}, intsOf ds = some o → ds = o.map .int
  | [], o, h => by cases h; rfl
  | .int i :: r, o, h => by
    simp only [intsOf, Option.map_eq_some_iff] at h
    obtain ⟨o', h1, rfl⟩ := h
    rw [intsOf_some h1]; rfl
  | .none :: _, _, h => by cases h
  | .bool _ :: _, _, h => by cases h
  | .str _ :: _, _, h => by cases h
  | .list _ :: _, _, h => by cases h
  | .tuple _ :: _, _, h => by cases h
  | .dict _ :: _, _, h => by cases h
open Classical in
noncomputable def vlB (k : Kd) (o : List Int) : Bool := decide (VL k o)
noncomputable def ordB (k : Kd) (d : PyData) : Bool := match asO d with
  | some o => vlB k o
  | none => false
def permB (o r : List Int) : Bool := decide (o.Perm r)
theorem vlB_iff {k : Kd} {o : List Int} : vlB k o = true ↔ VL k o := by unfold vlB; exact @decide_eq_true_iff _ (Classical.propDecidable _)
theorem permB_iff {o r : List Int} : permB o r = true ↔ o.Perm r := by unfold permB; exact decide_eq_true_iff
def toD : V → PyData
  | .int i => .int i
  | .bl b => .bool b
  | _ => .none
theorem dp_flat {K : PySem.W.Frag} {H : Hp} : ∀ {xs : List V}, (∀ x ∈ xs, flat2 x) → DpAll K H xs (xs.map toD)
  | [], _ => .nil
  | x :: xs, h => by
    rcases h x List.mem_cons_self with ⟨i, rfl⟩ | ⟨b, rfl⟩
    · exact .cons (.int i) (dp_flat fun y hy => h y (List.mem_cons_of_mem _ hy))
    · exact .cons (.bl b) (dp_flat fun y hy => h y (List.mem_cons_of_mem _ hy))
theorem flat_dp {K : PySem.W.Frag} {H : Hp} : ∀ {xs : List V} {ds : List PyData}, DpAll K H xs ds → (∀ d ∈ ds, FlD d) → (∀ x ∈ xs, flat2 x) ∧ ds = xs.map toD
  | _, _, .nil, _ => ⟨fun x hx => (by cases hx), rfl⟩
  | _, _, .cons h a, hd => by
    obtain ⟨h1, h2⟩ := flat_dp a fun d hd' => hd d (List.mem_cons_of_mem _ hd')
    rcases hd _ List.mem_cons_self with ⟨i, rfl⟩ | ⟨b, rfl⟩
    · cases h
      exact ⟨fun x hx => (List.mem_cons.mp hx).elim (fun e => .inl ⟨i, e⟩) (h1 x), by rw [h2]; rfl⟩
    · cases h
      exact ⟨fun x hx => (List.mem_cons.mp hx).elim (fun e => .inr ⟨b, e⟩) (h1 x), by rw [h2]; rfl⟩
theorem all_whole : ∀ {xs : List V}, (∀ x ∈ xs, wholeB x = true) → ∃ o, xs = isI o
  | [], _ => ⟨[], rfl⟩
  | x :: xs, h => by
    obtain ⟨o, rfl⟩ := all_whole fun y hy => h y (List.mem_cons_of_mem _ hy)
    have hx := h x List.mem_cons_self
    cases x with
    | int i => exact ⟨i :: o, rfl⟩
    | _ => cases hx
theorem not_whole : ∀ {xs : List V}, (∃ x ∈ xs, wholeB x = false) → intsOf (xs.map toD) = none
  | [], ⟨x, hx, _⟩ => by cases hx
  | x :: xs, ⟨y, hy, e⟩ => by
    cases x with
    | int i =>
      rcases List.mem_cons.mp hy with rfl | hy
      · cases e
      · simp only [List.map_cons, toD, intsOf, not_whole ⟨y, hy, e⟩, Option.map_none]
    | _ => rfl
theorem tyX_L {K : PySem.W.Frag} {H : Hp} {a : Addr} {xs : List V} (h : SqL K H a xs) : TyX K H (.ref a) (.type "list") := by
  rcases h with (h | ⟨o, h⟩) | ⟨o, its, n, h, c, _⟩
  · exact .base (.lst h)
  · exact .base (.frz h)
  · exact .kList h c
theorem tyX_T {K : PySem.W.Frag} {H : Hp} {a : Addr} {xs : List V} (h : SqT K H a xs) : TyX K H (.ref a) (.type "tuple") := by
  rcases h with (h | ⟨o, h⟩) | ⟨o, its, n, h, c, _⟩
  · exact .base (.tup h)
  · exact .fTuple h
  · exact .kTuple h c
theorem irange_sum (n : Nat) : (irange 0 n).sum = ((n : Int) * ((n : Int) - 1)) / 2 := by
  have h : ∀ m : Nat, 2 * (irange 0 m).sum = (m : Int) * ((m : Int) - 1) := by
    intro m
    induction m with
    | zero => rfl
    | succ m ih =>
      have e : irange 0 (m + 1) = irange 0 m ++ [0 + (m : Int)] := by unfold irange; rw [List.range_succ, List.map_append]; rfl
      rw [e, List.sum_append, Int.mul_add, ih]
      simp only [List.sum_cons, List.sum_nil]
      rw [show ((m + 1 : Nat) : Int) = (m : Int) + 1 by omega, show (m : Int) + 1 - 1 = m by omega, Int.add_mul, Int.mul_sub]
      omega
  have := h n
  omega
section
variable {X : Cx} {σ : L2.St} {H H' : Hp} {a b e : Expr} {P P' : PV} {pos p pc : Pos}
theorem vn_sorted {o : List Int} (hm : X.mg "sorted" = none) (ha : VN X a σ H (isL X.K (isI o))) (hl : o.length < 64) (hg : Gl X "sorted" := by rfl) (hs : starEach [a] X.env = (false, eval a X.env) :: starEach [] X.env := by rfl) (hpl : (backTo pos (starEach [] X.env)).any (·.1) = false := by rfl) :
    VN X (.Call (.Name "sorted" p) [a] [] pos) σ H fun v H' => ∃ ns, ns.Perm o ∧ ns.Pairwise (· ≤ ·) ∧ newL H (isI ns) v H' :=
  vn_callB cr_sorted hm (by decide +kernel) (va1 ha stb_isL hs) (fun vs H1 e1 ⟨v, e, q, ev, hq⟩ Q k => ⟨q, o, by rw [e, ev], hq, hl, fun ns l h1 h2 h3 => k _ _ (Ex.new h3) ⟨ns, h1, h2, l, rfl, fresh_back e1 h3, upd_same⟩⟩) hg (by decide) (by decide) hs hpl
theorem stb_sorted {o : List Int} {H0 : Hp} : Stb fun v H' => ∃ ns : List Int, ns.Perm o ∧ ns.Pairwise (· ≤ ·) ∧ newL H0 (isI ns) v H' := fun v H H' e ⟨ns, h1, h2, h3⟩ => ⟨ns, h1, h2, stb_newL _ _ _ e h3⟩
/-- sorted(xs) == ys, ys rising -/
theorem ve_sortEq {o r : List Int} (hu : X.A.units + 64 < cLine) (hm : X.mg "sorted" = none) (ha : VN X a σ H (isL X.K (isI o))) (hb : VN X b σ H (isL X.K (isI r))) (hl : o.length < 64) (hr : r.Pairwise (· < ·)) (hg : Gl X "sorted" := by rfl) (hs : starEach [a] X.env = (false, eval a X.env) :: starEach [] X.env := by rfl) (hpl : (backTo pc (starEach [] X.env)).any (·.1) = false := by rfl) :
    VE X (.Compare (.Call (.Name "sorted" p) [a] [] pc) [.Eq] [b] pos) σ H (.bl (permB o r)) :=
  vn_cmp (op_eqD hu) (vn_sorted hm ha hl hg hs hpl) hb stb_sorted (fun x y H1 e1 ⟨ns, h1, h2, h3⟩ hy Q k => ⟨dL ns, dL r, h3.l.d, hy.d, (sh_dL _).s, (sh_dL _).s, k _ H1 (Ex.refl H1) (by
    show V.bl _ = V.bl _
    rw [eqv_dL]
    congr 1
    by_cases h : ns = r
    · rw [decide_eq_true h, permB_iff.mpr (h ▸ h1.symm)]
    · rw [decide_eq_false h]
      refine (Bool.eq_false_iff.mpr fun z => h ?_).symm
      exact List.Perm.eq_of_pairwise (le := fun a b => a ≤ b) (fun a b _ _ x y => Int.le_antisymm x y) h2 (hr.imp fun {a b} z => Int.le_of_lt z) (h1.trans (permB_iff.mp z)))⟩) (nomark _)
theorem ve_sum {o : List Int} (hm : X.mg "sum" = none) (ha : VN X a σ H (isL X.K (isI o))) (hc : X.calm = true := by rfl) (hg : Gl X "sum" := by rfl) (hs : starEach [a] X.env = (false, eval a X.env) :: starEach [] X.env := by rfl) (hpl : (backTo pos (starEach [] X.env)).any (·.1) = false := by rfl) :
    VE X (.Call (.Name "sum" p) [a] [] pos) σ H (.int o.sum) :=
  vn_callB (cr_sum hc) hm (by decide +kernel) (va1 ha stb_isL hs) (fun vs H1 e1 ⟨v, e, q, ev, hq⟩ Q k => ⟨q, o, by rw [e, ev], hq, k _ H1 (Ex.refl H1) rfl⟩) hg (by decide) (by decide) hs hpl
end
theorem isI_take_succ (f : Int → Int) (o : List Int) (j : Nat) (h : j < o.length) : isI ((o.take j).map f) ++ [V.int (f (gi o j))] = isI ((o.take (j + 1)).map f) := by
  rw [List.take_succ, List.getElem?_eq_getElem h, gi_lt h, List.map_append, isI, isI, List.map_append]
  rfl
section
variable {P : Program} {w : World} {K : PySem.W.Frag} {mg : Str → Option Value} {base : Heap} {C : Addr}
abbrev prOL (K : PySem.W.Frag) (C : Addr) : Pr := fun vs H P => ∃ v u k d, vs = [v, u] ∧ KAt C k v H ∧ Dp K H u d ∧ ItD d ∧ k.ok ∧ k.n ≤ 7 ∧ P = Is (.bl (ordB k d))
theorem sc18 : FnScope ["kind", "value", "size", "item"] ["kind", "value"] (defScope (top 18)) := ⟨rfl, rfl, rfl, by decide +kernel, rfl, by decide +kernel, by decide +kernel⟩
theorem df_ol (F : FnP K mg "is_order_list" (top 18)) (M : KM P w K mg base C) (B : Bl mg) (D1 : DF P w K mg base "is_whole" 1 ["value"] (spOf prWhole)) : DF P w K mg base "is_order_list" 2 ["kind", "value"] (spOf (prOL K C)) := by
  refine df_mk F sc18 (fun vs H P ⟨v, u, k, d, e, _⟩ => by rw [e]; rfl) (fun _ _ _ _ _ _ us hl => match us, hl with | [_, _], _ => rfl) ?_
  rintro f cdv A outer s H vs R E hr ⟨v, u, k, d, rfl, hv, hu, hd, hk, hn7, rfl⟩
  obtain ⟨hn, hr2⟩ := ok_n hk
  have hu64 := hr.units
  refine vs_set (i := 2) sc18.nd (ve_size M hr (kv (i := 0) hv (lv 0))) fun _ H1 e1 ev => ?_
  cases ev
  have hv1 := stb_K _ _ _ e1 hv
  have hu1 := Dp.mono e1 hu
  -- what is no list
  have other : ∀ {U : String}, TyX K H1 u (.type U) → kitB U "list" = some false → ordB k d = false →
      VS (cx P w K mg base ["kind", "value", "size", "item"] "is_order_list" (defScope (top 18)) f cdv A outer s H E) ((defBody (top 18)).drop 1) (en H (Is (.bl (ordB k d)))) ((L2.start ["kind", "value", "size", "item"] [v, u]).set 2 (some (.int (k.n : Int)))) H1 := fun {U} ty hkit ho =>
    vs_ifret (c := true) (P := Is (.bl (ordB k d))) (VT.to (vw_or (c' := false) (vt_not (vt_val (ve_isi (T := "list") B.isi (lv 1) (ve_bty B.list (by decide +kernel)) ty hkit))) fun h => by cases h).t rfl) (fun _ => VE.to ve_bl (by rw [ho])) (fun _ v2 H2 e2 p => ⟨e1.trans e2, p⟩) fun h => by cases h
  rcases hd with rfl | ⟨i, rfl⟩ | ⟨ds, rfl, hfl⟩ | ⟨ds, rfl, hfl⟩
  · cases hu
    exact other (.base .non) (by decide +kernel) rfl
  · cases hu
    exact other (.base (.int i)) (by decide +kernel) rfl
  · cases hu1 with
    | lst hs ha =>
      rename_i a xs
      obtain ⟨hx, rfl⟩ := flat_dp ha hfl
      have ty := tyX_L hs
      have hval : ∀ {σ' H' pos}, Ex H1 H' → σ'[1]? = some (some (.ref a)) → VN (cx P w K mg base ["kind", "value", "size", "item"] "is_order_list" (defScope (top 18)) f cdv A outer s H E) (.Name "value" pos) σ' H' (isL K xs) := fun {σ' H' pos} e h => llv (X := cx P w K mg base ["kind", "value", "size", "item"] "is_order_list" (defScope (top 18)) f cdv A outer s H E) (⟨a, rfl, ex_l e hs⟩ : isL K xs (.ref a) H') (lv 1 h)
      by_cases hlen : xs.length = k.n
      · -- the items that are no whole numbers
        have comp : VN (cx P w K mg base ["kind", "value", "size", "item"] "is_order_list" (defScope (top 18)) f cdv A outer s H E) (match (defBody (top 18)).getD 1 (.Pass ⟨0, 0, 0, 0⟩) with
            | .If (.BoolOp _ [_, _, .Compare l _ _ _] _) _ _ _ => l
            | _ => .Constant .none 0 ⟨0, 0, 0, 0⟩) ((L2.start ["kind", "value", "size", "item"] [v, .ref a]).set 2 (some (.int (k.n : Int)))) H1 (fun v' H' => ∃ D acc, v' = .ref D ∧ H1 D = none ∧ H' D = some (.lst acc) ∧ acc = (xs.take xs.length).filter fun x => !wholeB x) := by
          refine vn_lcL (i := 3) (fun D j acc H' => acc = (xs.take j).filter fun x => !wholeB x) sc18.nd (hval (Ex.refl H1) rfl) (by omega) (blkOk_by (own := [("item", 3)]) (N := ["kind", "value", "size", "item"]) (sc := defScope (top 18)) (by decide +kernel)) (fun _ _ _ _ _ => pg_name (i := 3) sc18.nd rfl (Or.inl rfl)) (fun _ => rfl) (fun _ _ _ _ => rfl) ?_
          intro D j x acc H' hD e hd hj hR
          subst hR
          have hxj := hx x (List.mem_of_getElem? hj)
          have htk : (xs.take (j + 1)).filter (fun x => !wholeB x) = (xs.take j).filter (fun x => !wholeB x) ++ if (!wholeB x) = true then [x] else [] := by
            rw [List.take_succ, hj, List.filter_append]
            cases h : wholeB x <;> simp [h]
          refine ⟨!wholeB x, Is x, fun _ _ _ _ _ => vts_one (vt_not (vt_val (vn_call D1 (hr.mono (by decide)) (va1 (lv 3) stb_is) (by
            rintro _ H2 e2 ⟨_, rfl, rfl⟩
            exact ⟨_, ⟨_, rfl, hxj, rfl⟩, fun u H3 e3 eu => eu⟩)))), fun hc => ⟨fun _ _ _ _ _ => lv 3, fun v1 H2 _ ev => ?_⟩, fun hc H2 _ => ?_⟩
          · rw [show v1 = x from ev, htk, if_pos hc]
          · rw [htk, if_neg (by rw [hc]; decide), List.append_nil]
        have hflat : ∀ x ∈ (xs.take xs.length).filter (fun x => !wholeB x), flat2 x := fun x h => hx x (by rw [List.take_length] at h; exact (List.mem_filter.mp h).1)
        have cmp := vt_ne0 (ds := ((xs.take xs.length).filter fun x => !wholeB x).map toD) (N := 0) (p := ⟨0, 0, 0, 0⟩) (pos := ⟨0, 0, 0, 0⟩) hu64 (comp.imp fun v' H' _ ⟨D, acc, e, _, hd, ha'⟩ => by
          subst e ha'
          exact Dp.lst (sq_of hd) (dp_flat hflat)) (fun d hd => by
          obtain ⟨x, hx', rfl⟩ := List.mem_map.mp hd
          rcases hflat x hx' with ⟨i, rfl⟩ | ⟨b, rfl⟩
          · exact sh_int i
          · exact sh_bool b)
        have test : VT (cx P w K mg base ["kind", "value", "size", "item"] "is_order_list" (defScope (top 18)) f cdv A outer s H E) (match (defBody (top 18)).getD 1 (.Pass ⟨0, 0, 0, 0⟩) with
            | .If c _ _ _ => c
            | _ => .Constant .none 0 ⟨0, 0, 0, 0⟩) ((L2.start ["kind", "value", "size", "item"] [v, .ref a]).set 2 (some (.int (k.n : Int)))) H1 (!decide (((xs.take xs.length).filter fun x => !wholeB x).map toD = [])) := by
          refine VT.to (vw_or (c := !true) (c' := false || !decide (((xs.take xs.length).filter fun x => !wholeB x).map toD = [])) (vt_not (vt_val (ve_isi (T := "list") B.isi (lv 1) (ve_bty B.list (by decide +kernel)) ty (by decide +kernel)))) fun _ => vw_or (c := false) (VT.to (vt_ne (ve_len B.len (hval (Ex.refl H1) rfl)) (lv 2)) ?_) fun _ => vw_or1 (vt_ne0 (N := 0) hu64 (comp.imp fun v' H' _ ⟨D, acc, e, _, hd, ha'⟩ => ?_) ?_)).t ?_
          · rw [dec_intV, hlen, decide_eq_true rfl]; rfl
          · subst e ha'
            exact Dp.lst (sq_of hd) (dp_flat hflat)
          · intro d hd
            obtain ⟨x, hx', rfl⟩ := List.mem_map.mp hd
            rcases hflat x hx' with ⟨i, rfl⟩ | ⟨b, rfl⟩
            · exact sh_int i
            · exact sh_bool b
          · cases decide (((xs.take xs.length).filter fun x => !wholeB x).map toD = []) <;> rfl
        rw [List.take_length] at test
        refine vs_ifret (P := Is (.bl (ordB k (.list (xs.map toD))))) test (fun hc => VE.to ve_bl ?_) (fun _ v2 H2 e2 p => ⟨e1.trans e2, p⟩) fun hc H2 e2 => ?_
        · have hne : (xs.filter fun x => !wholeB x) ≠ [] := fun z => by rw [z] at hc; cases hc
          obtain ⟨x, hx'⟩ := List.exists_mem_of_ne_nil _ hne
          obtain ⟨h1, h2⟩ := List.mem_filter.mp hx'
          have h2 : wholeB x = false := by cases h : wholeB x <;> simp [h] at h2 ⊢
          unfold ordB asO
          simp only
          rw [not_whole ⟨x, h1, h2⟩]
        · have hnil : (xs.filter fun x => !wholeB x) = [] := by
            cases h : xs.filter fun x => !wholeB x with
            | nil => rfl
            | cons y ys => rw [h] at hc; simp at hc
          have hwh : ∀ x ∈ xs, wholeB x = true := fun x hx' => by
            have := List.filter_eq_nil_iff.mp hnil x hx'
            cases h : wholeB x <;> simp [h] at this ⊢
          obtain ⟨o, rfl⟩ := all_whole hwh
          rw [isI_len] at hlen
          have hO : ordB k (.list ((isI o).map toD)) = vlB k o := by
            unfold ordB asO
            have : (isI o).map toD = o.map .int := by simp [isI, toD]
            simp only
            rw [this, intsOf_map]
          rw [hO]
          have hv2 := stb_K _ _ _ e2 hv1
          refine vs_ifret (c := decide (k.nm = .plain)) (P := Is (.bl (vlB k o))) (VT.to (vt_eq (ve_name M (hr.mono (by decide)) (kv (i := 0) hv2 (lv 0))) ve_str) (nm_plain k)) (fun hp => VE.to (ve_sortEq hu64 B.sorted (hval e2 rfl) ((vn_listR1 B.list B.range (lv 2) (by omega)).imp fun _ _ _ h => h.l) (by omega) (by rw [Int.toNat_natCast]; exact irange_lt _ _)) ?_) (fun _ v3 H3 e3 p => ⟨(e1.trans e2).trans e3, p⟩) fun hp H3 e3 => ?_
          · have hp : k.nm = .plain := of_decide_eq_true hp
            rw [Int.toNat_natCast]
            congr 1
            rw [Bool.eq_iff_iff, permB_iff, vlB_iff]
            unfold VL
            rw [hp]
          · have hp : ¬ k.nm = .plain := of_decide_eq_false hp
            refine vs_ifret (c := decide (k.nm = .mirror)) (P := Is (.bl (vlB k o))) (VT.to (vt_eq (ve_name M (hr.mono (by decide)) (kv (i := 0) (stb_K _ _ _ e3 hv2) (lv 0))) ve_str) (nm_mirror k)) (fun hm => VE.to (ve_sortEq (o := o.map absI) hu64 B.sorted ?_ ((vn_listR B.list B.range ve_int (ve_add (lv 2) ve_int) (by omega)).imp fun _ _ _ h => h.l) (by rw [List.length_map]; omega) (irange_lt _ _)) ?_) (fun _ v4 H4 e4 p => ⟨((e1.trans e2).trans e3).trans e4, p⟩) fun hm H4 e4 => ?_
            · -- [abs(item) for item in value]
              refine (vn_lcL (i := 3) (fun D j acc H' => acc = isI ((o.take j).map absI)) sc18.nd (hval (e2.trans e3) rfl) (by rw [isI_len]; omega) (blkOk_by (own := [("item", 3)]) (N := ["kind", "value", "size", "item"]) (sc := defScope (top 18)) (by decide +kernel)) (fun _ _ _ _ _ => pg_name (i := 3) sc18.nd rfl (Or.inl rfl)) (fun _ => rfl) (fun _ _ _ _ => rfl) ?_).imp fun v' H' _ ⟨D, acc, e, _, hd, ha'⟩ => ⟨D, e, sq_of (by rw [hd, ha', isI_len, List.take_length])⟩
              intro D j x acc H' hD e hd hj hR
              subst hR
              obtain ⟨hjl, rfl⟩ := isI_get hj
              refine ⟨true, Is (.int (absI (gi o j))), fun _ _ _ _ _ => vts_nil, fun _ => ⟨fun _ _ _ _ _ => ve_abs B.abs (lv 3), fun v1 H5 _ ev => ?_⟩, fun h => by cases h⟩
              rw [show v1 = _ from ev]
              exact isI_take_succ absI o j hjl
            · have hm : k.nm = .mirror := of_decide_eq_true hm
              congr 1
              rw [Bool.eq_iff_iff, permB_iff, vlB_iff, show ((k.n : Int) + 1 - 1).toNat = k.n by omega]
              unfold VL
              rw [hm]
            · have hm : ¬ k.nm = .mirror := of_decide_eq_false hm
              have hrg : k.nm = .ring := by
                cases h : k.nm with
                | plain => exact absurd h hp
                | mirror => exact absurd h hm
                | ring => rfl
              refine vs_ret (VE.to (y := .bl (vlB k o)) (ve_and (ve_sortEq (o := o.map fun x => x % (k.n : Int)) hu64 B.sorted ?_ ((vn_listR1 B.list B.range (lv 2) (by omega)).imp fun _ _ _ h => h.l) (by rw [List.length_map]; omega) (by rw [Int.toNat_natCast]; exact irange_lt _ _)) fun _ => ve_one (ve_eq (ve_sum B.sum (hval ((e2.trans e3).trans e4) rfl)) (ve_div (j := 2) (by omega) (ve_mul (i := (k.n : Int)) (Or.inl (by omega)) (lv 2) (ve_sub (lv 2) ve_int)) ve_int))) ?_) fun v5 H5 e5 p => ⟨(((e1.trans e2).trans e3).trans e4).trans e5, p⟩
              · refine (vn_lcL (i := 3) (fun D j acc H' => acc = isI ((o.take j).map fun x => x % (k.n : Int))) sc18.nd (hval ((e2.trans e3).trans e4) rfl) (by rw [isI_len]; omega) (blkOk_by (own := [("item", 3)]) (N := ["kind", "value", "size", "item"]) (sc := defScope (top 18)) (by decide +kernel)) (fun _ _ _ _ _ => pg_name (i := 3) sc18.nd rfl (Or.inl rfl)) (fun _ => rfl) (fun _ _ _ _ => rfl) ?_).imp fun v' H' _ ⟨D, acc, e, _, hd, ha'⟩ => ⟨D, e, sq_of (by rw [hd, ha', isI_len, List.take_length])⟩
                intro D j x acc H' hD e hd hj hR
                subst hR
                obtain ⟨hjl, rfl⟩ := isI_get hj
                refine ⟨true, Is (.int (gi o j % (k.n : Int))), fun _ _ _ _ _ => vts_nil, fun _ => ⟨fun _ _ _ _ _ => ve_mod (by omega) (lv 3) (lv 2), fun v1 H5 _ ev => ?_⟩, fun h => by cases h⟩
                rw [show v1 = _ from ev]
                exact isI_take_succ (fun x => x % (k.n : Int)) o j hjl
              · congr 1
                rw [Int.toNat_natCast, dec_intV, Bool.eq_iff_iff, Bool.and_eq_true, permB_iff, vlB_iff, decide_eq_true_iff, ← irange_sum]
                unfold VL
                rw [hrg]
      · refine vs_ifret (c := true) (P := Is (.bl (ordB k (.list (xs.map toD))))) (VT.to (vw_or (c := !true) (c' := true || false) (vt_not (vt_val (ve_isi (T := "list") B.isi (lv 1) (ve_bty B.list (by decide +kernel)) ty (by decide +kernel)))) fun _ => vw_or (c := true) (VT.to (vt_ne (ve_len B.len (hval (Ex.refl H1) rfl)) (lv 2)) ?_) fun h => by cases h).t rfl) (fun _ => VE.to ve_bl ?_) (fun _ v2 H2 e2 p => ⟨e1.trans e2, p⟩) fun h => by cases h
        · rw [dec_intV, decide_eq_false (by omega)]; rfl
        · congr 1
          unfold ordB asO
          simp only
          cases h : intsOf (xs.map toD) with
          | none => rfl
          | some o =>
            simp only
            refine (Bool.eq_false_iff.mpr fun z => hlen ?_).symm
            have := VL.len (vlB_iff.mp z)
            have := congrArg List.length (intsOf_some h)
            simp at this
            omega
  · cases hu1 with
    | tup hs ha => exact other (tyX_T hs) (by decide +kernel) rfl
end
end W47
namespace W47
open PySem PySem.Spec PyProof.Rows L2 Evl C47
section
variable {P : Program} {w : World} {K : PySem.W.Frag} {mg : Str → Option Value} {base : Heap} {C : Addr}
/-- least_row_of -/
abbrev prRow (K : PySem.W.Frag) (C : Addr) : Pr := fun vs H P => ∃ v u k o, vs = [v, u] ∧ KAt C k v H ∧ isL K (isI o) u H ∧ VL k o ∧ k.ok ∧ k.n ≤ 7 ∧ crs k o ≤ 20000 ∧ P = newL H (isN (rowOf k false o))
theorem sc22 : FnScope ["kind", "order", "found", "left", "steps"] ["kind", "order"] (defScope (top 22)) := ⟨rfl, rfl, rfl, by decide +kernel, rfl, by decide +kernel, by decide +kernel⟩
theorem df_row (F : FnP K mg "least_row_of" (top 22)) (B : Bl mg) (D1 : DF P w K mg base "falls_of" 3 ["kind", "order"] (spOf (prFalls K C))) (D2 : DF P w K mg base "by_step" 2 ["kind", "order", "step"] (spOf (prSt K C))) : DF P w K mg base "least_row_of" 4 ["kind", "order"] (spOf (prRow K C)) := by
  refine df_mk F sc22 (fun vs H P ⟨v, u, k, o, e, _⟩ => by rw [e]; rfl) (fun _ _ _ _ _ _ us hl => match us, hl with | [_, _], _ => rfl) ?_
  rintro f cdv A outer s H vs R E hr ⟨v, u, k, o, rfl, hv, hu, hV, hk, hn7, hcr, rfl⟩
  obtain ⟨hn, hr2⟩ := ok_n hk
  have hu64 := hr.units
  refine vs_par (i := 2) (j := 3) (P1 := newL H []) (P2 := newL H (isI o)) sc22.nd vn_nil (vn_list B.list (llv hu (lv 1))) stb_newL stb_newL fun q a H1 e1 hq ha => ?_
  obtain ⟨q, rfl, hq0, hq⟩ := hq
  obtain ⟨a, rfl, ha0, ha⟩ := ha
  -- the two new lists are two: told at the falls' list
  by_cases hqa : a = q
  · subst hqa
    rw [hq] at ha
    have e : isI o = [] := (HO.lst.inj (Option.some.inj ha)).symm
    have : o.length = 0 := by have := congrArg List.length e; rwa [isI_len] at this
    have := VL.len hV
    omega
  refine vs_set (i := 4) sc22.nd (vn_call D1 (hr.mono (by decide)) (va2 (kv (i := 0) (stb_K _ _ _ e1 hv) (lv 0)) (llv (⟨a, rfl, sq_of ha⟩ : isL K (isI o) (.ref a) H1) (lv 3)) stb_K stb_isL) (P := newL H1 (isN (falls k o))) (by
    rintro _ H2 e2 ⟨x, y, rfl, hx, hy⟩
    exact ⟨_, ⟨x, y, k, o, rfl, hx, hy, VL.len hV, hn, hn7, rfl⟩, fun u H3 e3 eu => eu.back e2⟩)) fun b H2 e2 hb => ?_
  obtain ⟨b, rfl, hb0, hb⟩ := hb
  refine vs_while (fun m σ' H' => ∃ acc a b o', σ' = [some v, some u, some (.ref q), some (.ref a), some (.ref b)] ∧ Ex H H' ∧ H' q = some (.lst (isN acc)) ∧ a ≠ q ∧ H' a = some (.lst (isI o')) ∧ b ≠ q ∧ H' b = some (.lst (isN (falls k o'))) ∧ VL k o' ∧ acc ++ desc k false (crs k o') o' = desc k false (crs k o) o ∧ acc.length + crs k o' = crs k o ∧ m = crs k o')
    _ ⟨[], a, b, o, rfl, e1.trans e2, e2 _ _ hq, hqa, e2 _ _ ha, Ne.symm (ne_of_none hq hb0), hb, hV, rfl, by simp, rfl⟩ ?_
  rintro m σ' H' ⟨acc, a', b', o', rfl, e, hq', haq, ha', hbq, hb', hV', hd, hlen, rfl⟩
  refine ⟨!decide (falls k o' = []), vt_neN hu64 (llv (⟨b', rfl, sq_of hb'⟩ : isL K (isN (falls k o')) (.ref b') H') (lv 4)), fun hc H3 e3 => ?_, fun hc H3 e3 => ?_⟩
  · cases hf : falls k o' with
    | nil => rw [hf] at hc; simp at hc
    | cons g gs =>
      obtain ⟨g1, g2, g3, g4⟩ := falls_cons hk hV' hf false
      have g1 : g < k.steps := g1
      have g3 : VL k (stepL k o' g) := g3
      have g4 : crs k (stepL k o' g) + 1 = crs k o' := g4
      rw [hf] at hb'
      have at0 : atI (isN (g :: gs)) 0 = some (.int (g : Int)) := atI_nat (j := 0) rfl
      have hq3 := e3 _ _ hq'
      have ha3 := e3 _ _ ha'
      have hb3 := e3 _ _ hb'
      refine vs_app hq3 (lv 2) (ve_ixL (llv (⟨b', rfl, sq_of hb3⟩ : isL K (isN (g :: gs)) (.ref b') H3) (lv 4)) ve_int at0) stb_is (by rw [List.length_map]; omega) fun v4 H4 e4 ev4 => ?_
      have eH : Ex H (upd H4 q (.lst (isN acc ++ [v4]))) := Ex.mut ((e.trans e3).trans e4) hq0
      have ha4 : (upd H4 q (.lst (isN acc ++ [v4]))) a' = some (.lst (isI o')) := by rw [upd_ne haq]; exact e4 _ _ ha3
      have hb4 : (upd H4 q (.lst (isN acc ++ [v4]))) b' = some (.lst (isN (g :: gs))) := by rw [upd_ne hbq]; exact e4 _ _ hb3
      have hq4 : (upd H4 q (.lst (isN acc ++ [v4]))) q = some (.lst (isN (acc ++ [g]))) := by rw [upd_same, show v4 = _ from ev4]; simp [isN]
      generalize upd H4 q (.lst (isN acc ++ [v4])) = H5 at eH ha4 hb4 hq4
      refine vs_set (i := 3) sc22.nd (vn_call D2 (hr.mono (by decide)) (va3 (kv (i := 0) (stb_K _ _ _ eH hv) (lv 0)) (llv (⟨a', rfl, sq_of ha4⟩ : isL K (isI o') (.ref a') H5) (lv 3)) (ve_ixL (llv (⟨b', rfl, sq_of hb4⟩ : isL K (isN (g :: gs)) (.ref b') H5) (lv 4)) ve_int at0) stb_K stb_isL stb_is) (P := newL H5 (isI (stepL k o' g))) (by
        rintro _ H6 e6 ⟨x, y, _, rfl, hx, hy, rfl⟩
        exact ⟨_, ⟨x, y, k, o', g, rfl, hx, hy, VL.len hV', g1, hn7, hr2, rfl⟩, fun u H7 e7 eu => eu.back e6⟩)) fun a2 H6 e6 ha2 => ?_
      obtain ⟨a2, rfl, ha20, ha2⟩ := ha2
      refine vs_set (i := 4) sc22.nd (vn_call D1 (hr.mono (by decide)) (va2 (kv (i := 0) (stb_K _ _ _ (eH.trans e6) hv) (lv 0)) (llv (⟨a2, rfl, sq_of ha2⟩ : isL K (isI (stepL k o' g)) (.ref a2) H6) (lv 3)) stb_K stb_isL) (P := newL H6 (isN (falls k (stepL k o' g)))) (by
        rintro _ H7 e7 ⟨x, y, rfl, hx, hy⟩
        exact ⟨_, ⟨x, y, k, _, rfl, hx, hy, VL.len g3, hn, hn7, rfl⟩, fun u H8 e8 eu => eu.back e7⟩)) fun b2 H7 e7 hb2 => vs_nil ?_
      obtain ⟨b2, rfl, hb20, hb2⟩ := hb2
      have hq6 := e6 _ _ hq4
      refine ⟨crs k (stepL k o' g), by omega, acc ++ [g], a2, b2, stepL k o' g, rfl, (eH.trans e6).trans e7, e7 _ _ hq6, Ne.symm (ne_of_none hq4 ha20), e7 _ _ ha2, Ne.symm (ne_of_none hq6 hb20), hb2, g3, ?_, by rw [List.length_append, List.length_singleton]; omega, rfl⟩
      rw [← hd, desc_cons hk hV' hf false, List.append_assoc]
      rfl
  · have hf : falls k o' = [] := by
      cases hf : falls k o' with
      | nil => rfl
      | cons g gs => rw [hf] at hc; simp at hc
    refine vs_ret (vn_rev (llv (⟨q, rfl, sq_of (e3 _ _ hq')⟩ : isL K (isN acc) (.ref q) H3) (lv 2))) fun v4 H4 e4 h => ⟨(e.trans e3).trans e4, ?_⟩
    have hacc : acc = desc k false (crs k o) o := by
      rw [← hd, desc_nil false hf, List.append_nil]
    obtain ⟨z, rfl, hz0, hz⟩ := h.back (e.trans e3)
    refine ⟨z, rfl, hz0, ?_⟩
    rw [hz, hacc]
    unfold C47.rowOf
    rw [isN, isN, List.map_reverse]
/-- is_let_order, check_order, check_two_orders, is_beneath -/
abbrev prLet (K : PySem.W.Frag) (C : Addr) : Pr := fun vs H P => ∃ v u k o, vs = [v, u] ∧ KAt C k v H ∧ isL K (isI o) u H ∧ VL k o ∧ k.ok ∧ k.n ≤ 7 ∧ crs k o ≤ 60 ∧ P = Is (.bl true)
theorem sc19 : FnScope ["kind", "value"] ["kind", "value"] (defScope (top 19)) := ⟨rfl, rfl, rfl, by decide +kernel, rfl, by decide +kernel, by decide +kernel⟩
theorem itD_dL (o : List Int) : ItD (dL o) := .inr (.inr (.inl ⟨_, rfl, fun x hx => by obtain ⟨i, _, rfl⟩ := List.mem_map.mp hx; exact .inl ⟨i, rfl⟩⟩))
theorem ordB_dL (k : Kd) (o : List Int) : ordB k (dL o) = vlB k o := by unfold ordB; rw [asO_dL]
theorem df_let (F : FnP K mg "is_let_order" (top 19)) (hM : ∃ t, mg "MOST_CROSSINGS" = some (.int 60 t)) (D1 : DF P w K mg base "is_order_list" 2 ["kind", "value"] (spOf (prOL K C))) (D2 : DF P w K mg base "crossings_of" 3 ["kind", "order"] (spOf (prCrs K C))) : DF P w K mg base "is_let_order" 4 ["kind", "value"] (spOf (prLet K C)) := by
  refine df_mk F sc19 (fun vs H P ⟨v, u, k, o, e, _⟩ => by rw [e]; rfl) (fun _ _ _ _ _ _ us hl => match us, hl with | [_, _], _ => rfl) ?_
  rintro f cdv A outer s H vs R E hr ⟨v, u, k, o, rfl, hv, hu, hV, hk, hn7, hcr, rfl⟩
  obtain ⟨hn, hr2⟩ := ok_n hk
  obtain ⟨t, hM⟩ := hM
  refine vs_ret (VE.to (y := .bl true) (ve_and (c := true) (vn_call D1 (hr.mono (by decide)) (va2 (kv (i := 0) hv (lv 0)) (llv hu (lv 1)) stb_K stb_isL) (by
    rintro _ H2 e2 ⟨x, y, rfl, hx, hy⟩
    exact ⟨_, ⟨x, y, k, dL o, rfl, hx, hy.d, itD_dL o, hk, hn7, rfl⟩, fun u H3 e3 eu => by rw [show u = _ from eu, ordB_dL, vlB_iff.mpr hV]⟩)) fun _ => ve_one (ve_le (i := (crs k o : Int)) (j := 60) (vn_call D2 hr (va2 (kv (i := 0) hv (lv 0)) (llv hu (lv 1)) stb_K stb_isL) (by
    rintro _ H2 e2 ⟨x, y, rfl, hx, hy⟩
    exact ⟨_, ⟨x, y, k, o, rfl, hx, hy, VL.len hV, hn, hn7, rfl⟩, fun u H3 e3 eu => eu⟩)) (ve_glob hM ⟨t, rfl⟩))) ?_) fun v2 H2 e2 p => ⟨e2, p⟩
  rw [decide_eq_true (show (crs k o : Int) ≤ 60 by omega)]
  rfl
abbrev prCO (K : PySem.W.Frag) (C : Addr) : Pr := fun vs H P => ∃ v u k o, vs = [v, u] ∧ KAt C k v H ∧ isL K (isI o) u H ∧ VL k o ∧ k.ok ∧ k.n ≤ 7 ∧ crs k o ≤ 60 ∧ P = Is .non
theorem sc20 : FnScope ["kind", "order"] ["kind", "order"] (defScope (top 20)) := ⟨rfl, rfl, rfl, by decide +kernel, rfl, by decide +kernel, by decide +kernel⟩
theorem df_co (F : FnP K mg "check_order" (top 20)) (D1 : DF P w K mg base "is_let_order" 4 ["kind", "value"] (spOf (prLet K C))) : DF P w K mg base "check_order" 5 ["kind", "order"] (spOf (prCO K C)) := by
  refine df_mk F sc20 (fun vs H P ⟨v, u, k, o, e, _⟩ => by rw [e]; rfl) (fun _ _ _ _ _ _ us hl => match us, hl with | [_, _], _ => rfl) ?_
  rintro f cdv A outer s H vs R E hr ⟨v, u, k, o, rfl, hv, hu, hV, hk, hn7, hcr, rfl⟩
  exact vs_no (c := false) (VT.to (vt_not (vt_val (c := true) (vn_call D1 hr (va2 (kv (i := 0) hv (lv 0)) (llv hu (lv 1)) stb_K stb_isL) (by
    rintro _ H2 e2 ⟨x, y, rfl, hx, hy⟩
    exact ⟨_, ⟨x, y, k, o, rfl, hx, hy, hV, hk, hn7, hcr, rfl⟩, fun u H3 e3 eu => eu⟩)))) rfl) rfl fun H1 e1 => vs_nil ⟨e1, rfl⟩
/-- an order that may be handed in -/
def Okd (k : Kd) (o : List Int) : Prop := VL k o ∧ crs k o ≤ 60
abbrev prC2 (K : PySem.W.Frag) (C : Addr) : Pr := fun vs H P => ∃ v u1 u2 k o1 o2, vs = [v, u1, u2] ∧ KAt C k v H ∧ isL K (isI o1) u1 H ∧ isL K (isI o2) u2 H ∧ Okd k o1 ∧ Okd k o2 ∧ k.ok ∧ k.n ≤ 7 ∧ P = Is .non
theorem sc26 : FnScope ["kind", "one", "other"] ["kind", "one", "other"] (defScope (top 26)) := ⟨rfl, rfl, rfl, by decide +kernel, rfl, by decide +kernel, by decide +kernel⟩
theorem df_c2 (F : FnP K mg "check_two_orders" (top 26)) (D1 : DF P w K mg base "check_kind" 1 ["kind"] (spOf (prCK C))) (D2 : DF P w K mg base "check_order" 5 ["kind", "order"] (spOf (prCO K C))) : DF P w K mg base "check_two_orders" 6 ["kind", "one", "other"] (spOf (prC2 K C)) := by
  refine df_mk F sc26 (fun vs H P ⟨v, u1, u2, k, o1, o2, e, _⟩ => by rw [e]; rfl) (fun _ _ _ _ _ _ us hl => match us, hl with | [_, _, _], _ => rfl) ?_
  rintro f cdv A outer s H vs R E hr ⟨v, u1, u2, k, o1, o2, rfl, hv, hu1, hu2, ⟨hV1, hc1⟩, ⟨hV2, hc2⟩, hk, hn7, rfl⟩
  refine vs_expr (P := Is .non) (vn_call D1 (hr.mono (by decide)) (va1 (kv (i := 0) hv (lv 0)) stb_K) (by
    rintro _ H2 e2 ⟨x, rfl, hx⟩
    exact ⟨_, ⟨x, k, rfl, hx, rfl⟩, fun u H3 e3 eu => eu⟩)) fun _ H1 e1 _ => ?_
  refine vs_expr (P := Is .non) (vn_call D2 hr (va2 (kv (i := 0) (stb_K _ _ _ e1 hv) (lv 0)) (llv (stb_isL _ _ _ e1 hu1) (lv 1)) stb_K stb_isL) (by
    rintro _ H2 e2 ⟨x, y, rfl, hx, hy⟩
    exact ⟨_, ⟨x, y, k, o1, rfl, hx, hy, hV1, hk, hn7, hc1, rfl⟩, fun u H3 e3 eu => eu⟩)) fun _ H2 e2 _ => ?_
  refine vs_expr (P := Is .non) (vn_call D2 hr (va2 (kv (i := 0) (stb_K _ _ _ (e1.trans e2) hv) (lv 0)) (llv (stb_isL _ _ _ (e1.trans e2) hu2) (lv 2)) stb_K stb_isL) (by
    rintro _ H3 e3 ⟨x, y, rfl, hx, hy⟩
    exact ⟨_, ⟨x, y, k, o2, rfl, hx, hy, hV2, hk, hn7, hc2, rfl⟩, fun u H3 e3 eu => eu⟩)) fun _ H3 e3 _ => vs_nil ⟨(e1.trans e2).trans e3, rfl⟩
abbrev prBn (K : PySem.W.Frag) (C : Addr) : Pr := fun vs H P => ∃ v u1 u2 k o1 o2, vs = [v, u1, u2] ∧ KAt C k v H ∧ isL K (isI o1) u1 H ∧ isL K (isI o2) u2 H ∧ Okd k o1 ∧ Okd k o2 ∧ k.ok ∧ k.n ≤ 7 ∧ P = Is (.bl (bel k o1 o2))
theorem sc29 : FnScope ["kind", "one", "other"] ["kind", "one", "other"] (defScope (top 29)) := ⟨rfl, rfl, rfl, by decide +kernel, rfl, by decide +kernel, by decide +kernel⟩
theorem df_bn (F : FnP K mg "is_beneath" (top 29)) (D1 : DF P w K mg base "check_two_orders" 6 ["kind", "one", "other"] (spOf (prC2 K C))) (D2 : DF P w K mg base "is_below" 4 ["kind", "one", "other"] (spOf (prBel K C))) : DF P w K mg base "is_beneath" 7 ["kind", "one", "other"] (spOf (prBn K C)) := by
  refine df_mk F sc29 (fun vs H P ⟨v, u1, u2, k, o1, o2, e, _⟩ => by rw [e]; rfl) (fun _ _ _ _ _ _ us hl => match us, hl with | [_, _, _], _ => rfl) ?_
  rintro f cdv A outer s H vs R E hr ⟨v, u1, u2, k, o1, o2, rfl, hv, hu1, hu2, h1, h2, hk, hn7, rfl⟩
  refine vs_expr (P := Is .non) (vn_call D1 hr (va3 (kv (i := 0) hv (lv 0)) (llv hu1 (lv 1)) (llv hu2 (lv 2)) stb_K stb_isL stb_isL) (by
    rintro _ H2 e2 ⟨x, y, z, rfl, hx, hy, hz⟩
    exact ⟨_, ⟨x, y, z, k, o1, o2, rfl, hx, hy, hz, h1, h2, hk, hn7, rfl⟩, fun u H3 e3 eu => eu⟩)) fun _ H1 e1 _ => ?_
  refine vs_ret (vn_call D2 (hr.mono (by decide)) (va3 (kv (i := 0) (stb_K _ _ _ e1 hv) (lv 0)) (llv (stb_isL _ _ _ e1 hu1) (lv 1)) (llv (stb_isL _ _ _ e1 hu2) (lv 2)) stb_K stb_isL stb_isL) (P := Is (.bl (bel k o1 o2))) (by
    rintro _ H2 e2 ⟨x, y, z, rfl, hx, hy, hz⟩
    exact ⟨_, ⟨x, y, z, k, o1, o2, rfl, hx, hy, hz, VL.len h1.1, h2.1, hk, hn7, rfl⟩, fun u H3 e3 eu => eu⟩)) fun _ H2 e2 p => ⟨e1.trans e2, p⟩
end
end W47
namespace W47
open PySem PySem.Spec PyProof.Rows L2 Evl C47
/-! ### lists of lists of ints -/
/-- a new list of new lists -/
def newLL (H0 : Hp) (os : List (List Int)) : PV := fun v H => ∃ p ps, v = .ref p ∧ H0 p = none ∧ H p = some (.lst (ps.map V.ref)) ∧ Paired (fun a o => H0 a = none ∧ H a = some (.lst (isI o))) ps os
/-- a list of lists to be read -/
def isLL (K : PySem.W.Frag) (os : List (List Int)) : PV := fun v H => ∃ p ps, v = .ref p ∧ SqL K H p (ps.map V.ref) ∧ Paired (fun a o => SqL K H a (isI o)) ps os
theorem paired_imp {α β : Type} {F G : α → β → Prop} : ∀ {l₁ : List α} {l₂ : List β}, Paired F l₁ l₂ → (∀ a b, F a b → G a b) → Paired G l₁ l₂
  | _, _, .nil, _ => .nil
  | _, _, .cons r t, f => .cons (f _ _ r) (paired_imp t f)
theorem stb_newLL {H0 : Hp} {os : List (List Int)} : Stb (newLL H0 os) := fun _ _ _ e ⟨p, ps, h1, h2, h3, h4⟩ => ⟨p, ps, h1, h2, e _ _ h3, paired_imp h4 fun a o ⟨q1, q2⟩ => ⟨q1, e _ _ q2⟩⟩
theorem stb_isLL {K : PySem.W.Frag} {os : List (List Int)} : Stb (isLL K os) := fun _ _ _ e ⟨p, ps, h1, h3, h4⟩ => ⟨p, ps, h1, ex_l e h3, paired_imp h4 fun a o q => ex_l e q⟩
theorem newLL.l {K : PySem.W.Frag} {H0 H : Hp} {os : List (List Int)} {v : V} (h : newLL H0 os v H) : isLL K os v H := by
  obtain ⟨p, ps, h1, _, h3, h4⟩ := h
  exact ⟨p, ps, h1, sq_of h3, paired_imp h4 fun a o q => sq_of q.2⟩
theorem newLL.back {H0 H1 H : Hp} {os : List (List Int)} {v : V} (e : Ex H0 H1) (h : newLL H1 os v H) : newLL H0 os v H := by
  obtain ⟨p, ps, h1, h2, h3, h4⟩ := h
  exact ⟨p, ps, h1, fresh_back e h2, h3, paired_imp h4 fun a o q => ⟨fresh_back e q.1, q.2⟩⟩
abbrev dLL (os : List (List Int)) : PyData := .list (os.map dL)
theorem dp_paired {K : PySem.W.Frag} {H : Hp} : ∀ {ps : List Addr} {os : List (List Int)}, Paired (fun a o => SqL K H a (isI o)) ps os → DpAll K H (ps.map V.ref) (os.map dL)
  | _, _, .nil => .nil
  | _, _, .cons h t => .cons (.lst h (dp_ints _)) (dp_paired t)
theorem isLL.d {K : PySem.W.Frag} {H : Hp} {os : List (List Int)} {v : V} (h : isLL K os v H) : Dp K H v (dLL os) := by
  obtain ⟨p, ps, rfl, h3, h4⟩ := h
  exact .lst h3 (dp_paired h4)
theorem paired_get {α β : Type} {F : α → β → Prop} : ∀ {l₁ : List α} {l₂ : List β} {i : Nat} {a : α}, Paired F l₁ l₂ → l₁[i]? = some a → ∃ b, l₂[i]? = some b ∧ F a b
  | _, _, 0, a, .cons r t, h => by simp at h; subst h; exact ⟨_, rfl, r⟩
  | _, _, i + 1, a, .cons r t, h => by
    obtain ⟨b, h1, h2⟩ := paired_get (i := i) t (by simpa using h)
    exact ⟨b, by simpa using h1, h2⟩
theorem paired_zip {α β : Type} {F : α → β → Prop} : ∀ {l₁ : List α} {l₂ : List β}, Paired F l₁ l₂ → (l₁.zip l₂).map (·.1) = l₁ ∧ (l₁.zip l₂).map (·.2) = l₂ ∧ ∀ q ∈ l₁.zip l₂, F q.1 q.2
  | _, _, .nil => ⟨rfl, rfl, fun q h => by cases h⟩
  | _, _, .cons r t => by
    obtain ⟨h1, h2, h3⟩ := paired_zip t
    refine ⟨by simp [h1], by simp [h2], fun q h => ?_⟩
    rcases List.mem_cons.mp h with e | h
    · subst e; exact r
    · exact h3 q h
theorem paired_of {α β : Type} {F : α → β → Prop} : ∀ (l : List (α × β)), (∀ q ∈ l, F q.1 q.2) → Paired F (l.map (·.1)) (l.map (·.2))
  | [], _ => .nil
  | q :: l, h => .cons (h q List.mem_cons_self) (paired_of l fun x hx => h x (List.mem_cons_of_mem _ hx))
theorem paired_append {α β : Type} {F : α → β → Prop} : ∀ {l₁ m₁ : List α} {l₂ m₂ : List β}, Paired F l₁ l₂ → Paired F m₁ m₂ → Paired F (l₁ ++ m₁) (l₂ ++ m₂)
  | _, _, _, _, .nil, h => h
  | _, _, _, _, .cons r t, h => .cons r (paired_append t h)
theorem paired_reverse {α β : Type} {F : α → β → Prop} : ∀ {l₁ : List α} {l₂ : List β}, Paired F l₁ l₂ → Paired F l₁.reverse l₂.reverse
  | _, _, .nil => .nil
  | _, _, .cons r t => by rw [List.reverse_cons, List.reverse_cons]; exact paired_append (paired_reverse t) (.cons r .nil)
theorem paired_len {α β : Type} {F : α → β → Prop} {l₁ : List α} {l₂ : List β} (h : Paired F l₁ l₂) : l₁.length = l₂.length := Paired.length h
/-! ### sorted(xs), xs a list of lists of ints -/
abbrev leP (a b : Addr × List Int) : Bool := decide (a.2 ≤ b.2)
theorem perm_sort (ps : List (Addr × List Int)) : (ps.mergeSort leP).Perm ps := List.mergeSort_perm _ _
def rSortedLL (K : PySem.W.Frag) : List V → Hp → VK → Prop := fun vs H Q => ∃ (a : Addr) (ps : List (Addr × List Int)), vs = [.ref a] ∧ SqL K H a (ps.map fun q => V.ref q.1) ∧ (∀ q ∈ ps, SqL K H q.1 (isI q.2)) ∧ ps.length ≤ 10000 ∧
  ∀ p, H p = none → Q (.ref p) (upd H p (.lst ((ps.mergeSort leP).map fun q => V.ref q.1)))
theorem vals_refs : ∀ {ps : List (Addr × List Int)} {us : List Value}, Vals (ps.map fun q => V.ref q.1) us → us = ps.map fun q => Value.ref q.1
  | [], _, .nil => rfl
  | q :: ps, _, .cons r t => by
    rw [vals_refs t]
    obtain rfl := (show _ = Value.ref q.1 from r)
    rfl
theorem refs_vals : ∀ (ps : List (Addr × List Int)), Vals (ps.map fun q => V.ref q.1) (ps.map fun q => Value.ref q.1)
  | [] => .nil
  | q :: ps => .cons rfl (refs_vals ps)
theorem each_refs : ∀ (ps : List (Addr × List Int)), PySem.W.EachIs (fun (v : Value) (q : Addr × List Int) => v = Value.ref q.1) (ps.map fun q => Value.ref q.1) ps
  | [] => .nil
  | q :: ps => .cons rfl (each_refs ps)
theorem refs_each : ∀ {out : List Value} {ps : List (Addr × List Int)}, PySem.W.EachIs (fun (v : Value) (q : Addr × List Int) => v = Value.ref q.1) out ps → out = ps.map fun q => Value.ref q.1
  | _, _, .nil => rfl
  | _, _, .cons h t => by rw [refs_each t, h]; rfl
theorem cr_sortedLL {X : Cx} (hu : X.A.units + 64 < cLine) : CallR X (.builtin "sorted") (rSortedLL X.K) := by
  intro pins s σ H vs us Q I r h
  obtain ⟨a, ps, rfl, hs, hq, hz, q⟩ := h
  obtain ⟨its, rv, hl, hzl⟩ := I.list hs
  rw [Vals.ref1 r]
  have hits := vals_refs rv
  subst hits
  have er : ∀ (l : List (Addr × List Int)), (∀ q ∈ l, q ∈ ps) → PySem.W.EachIs (fun (v : Value) (q : Addr × List Int) => ∃ as, Reads s.heap v (dL q.2) as) (l.map fun q => Value.ref q.1) l := by
    intro l
    induction l with
    | nil => intro _; exact .nil
    | cons q l ih =>
      intro hm
      exact .cons (Dp.reads I _ _ _ (.lst (hq q (hm q List.mem_cons_self)) (dp_ints _)) rfl) (ih fun x hx => hm x (List.mem_cons_of_mem _ hx))
  refine PySem.W.sorted_data (enc := fun q : Addr × List Int => dL q.2) hl.isList (each_refs ps) (er ps fun _ h => h) (PySem.W.AllAlike.of fun b b' => ?_) (PySem.W.Sortable.others fun b => ⟨(by intro z; cases z), fun xs z => by cases z⟩) (Nat.le_trans hz (by decide)) (fun b _ => ?_) fun out hlen hout => ?_
  · exact PySem.W.alike_ints _ _
  · have := (sh_dL b.2).2
    omega
  · have eo := refs_each hout
    obtain ⟨ep, he'⟩ := PyProof.Rows.sortedAll_at s.heap (ps.map fun q => Value.ref q.1) (List.toArray out)
    have hle : (fun (p q : Addr × List Int) => decide (p.2 ≤ q.2)) = leP := rfl
    rw [PySem.W.dataLe_rows] at eo hout
    refine ⟨.ref _, upd H (s.heap.objs.size + 1) (.lst ((ps.mergeSort leP).map fun q => V.ref q.1)), I.laid (t' := s.toks) (fun _ _ => PyProof.Rows.sortedAll_old) (Nat.le_succ _) ⟨?_, out, ep, ?_, ?_⟩, rfl, q _ (I.hok.fresh (Nat.le_succ _))⟩
    · rw [List.length_map, List.length_mergeSort]; exact Nat.le_trans hz (by decide)
    · rw [eo]; exact refs_vals _
    · simpa using he'
end W47
namespace W47
open PySem PySem.Spec PyProof.Rows L2 Evl C47
section
variable {X : Cx} {σ : L2.St} {H H' : Hp} {elt a : Expr} {ifs : List Expr} {scope : Scope} {pos : Pos} {u : V} {n m : Str}
theorem vn_lcE {xs : List V} {i j : Nat} {p1 p2 pt pe pc : Pos} {kt} (Rv : Addr → Nat → List V → Hp → Prop) (hN : X.N.Nodup) (hm : X.mg "enumerate" = none) (ha : VE X a σ H u) (hx : isL X.K xs u H) (hz : xs.length ≤ 40000)
    (ok : BlkOk X.N X.env.scope scope [(n, i), (m, j)]) (hgn : BK X scope fun Y => PG Y (.Tuple [.Name n p1, .Name m p2] kt pt) (gTup X.K 2 (gCons (gName i) (gCons (gName j) gNil)))) (hw : ∀ x y, wipe (((wipe σ [i, j]).set i (some x)).set j (some y)) [i, j] = wipe σ [i, j])
    (h0 : ∀ D H1, Ex H H1 → H1 D = none → Rv D 0 [] (upd H1 D (.lst [])))
    (hs : ∀ D (z : Nat) x acc H' H2, H D = none → Ex H H' → H' D = some (.lst acc) → xs[z]? = some x → Rv D z acc H' → Ex H' H2 → LcTurn X scope ifs elt (((wipe σ [i, j]).set i (some (.int (z : Int)))).set j (some x)) H2 D acc fun acc' H3 => Rv D (z + 1) acc' H3)
    (hc : X.calm = true := by rfl) (hg : Gl X "enumerate" := by rfl) (hst : starEach [a] X.env = [(false, eval a X.env)] := by rfl) (hit : ∀ x, foldedSetIterable (.Call (.Name "enumerate" pe) [a] [] pc) X.env x = pure x := by intro _; rfl) :
    VN X (.ListComp elt [⟨.Tuple [.Name n p1, .Name m p2] kt pt, .Call (.Name "enumerate" pe) [a] [] pc, ifs, 0⟩] scope pos) σ H fun v H' => ∃ D acc, v = .ref D ∧ H D = none ∧ H' D = some (.lst acc) ∧ Rv D xs.length acc H' := by
  refine vn_by (pe_lc (own := [(n, i), (m, j)]) hc hN (pi_enum hg hm pa_any hst) ok hgn pts_bk pe_bk hit) fun H1 e1 Q q => ?_
  refine (va1 ha stb_is hst) H1 e1 _ fun vs H2 e2 ⟨v, e, ev⟩ => ?_
  obtain ⟨l, eu, hl⟩ := hx
  subst eu
  have e12 := e1.trans e2
  refine ⟨l, xs, by rw [e, show v = .ref l from ev], ex_l e12 hl, fun D hD => ?_⟩
  have hD0 : H D = none := fresh_back e12 hD
  refine ⟨fun z m H' => m = xs.length - z ∧ z ≤ xs.length ∧ ∃ acc, acc.length ≤ z ∧ Ex H2 H' ∧ H' D = some (.lst acc) ∧ Rv D z acc H', ⟨xs.length, by simp, Nat.zero_le _, [], Nat.le_refl _, Ex.new hD, upd_same, h0 D H2 e12 hD⟩, ?_⟩
  rintro z m H' ⟨rfl, hzl, acc, hal, e', hd, hR⟩
  have hl' := ex_l (e12.trans e') hl
  by_cases hlt : z < xs.length
  · refine .inr ⟨⟨xs, xs[z], hl', by simp [hlt]⟩, fun H3 => z + 1 ≤ xs.length ∧ ∃ acc, acc.length ≤ z + 1 ∧ Ex H2 H3 ∧ H3 D = some (.lst acc) ∧ Rv D (z + 1) acc H3, fun H3 h => ⟨xs.length - (z + 1), by omega, rfl, h⟩, fun x H3 y => ?_⟩
    obtain ⟨T, x', rfl, hT, rfl, hx'⟩ := y
    have hxz := hx' xs hl'
    have eT : Ex H' (upd H' T (.tup [.int (z : Nat), x'])) := Ex.new hT
    refine ⟨T, _, rfl, SqT.of upd_same, rfl, _, _, rfl, _, _, rfl, rfl, hw _ _, ?_⟩
    have tn := hs D z x' acc H' _ hD0 (e12.trans e') hd hxz hR eT
    obtain ⟨c, P, t1, t2, t3⟩ := tn
    refine lc_turn (Nx := fun acc' H2' => acc'.length ≤ z + 1 ∧ Ex H2 H2' ∧ H2' D = some (.lst acc') ∧ Rv D (z + 1) acc' H2') (eT _ _ hd) (by omega) ⟨c, P, t1, fun hc' => ⟨(t2 hc').1, fun v H1' e'' pv => ⟨by simp; omega, Ex.mut ((e'.trans eT).trans e'') hD, upd_same, (t2 hc').2 v H1' e'' pv⟩⟩, fun hc' H1' e'' => ⟨by omega, (e'.trans eT).trans e'', e'' D _ (eT _ _ hd), t3 hc' H1' e''⟩⟩ fun acc' H2' h => ⟨hlt, acc', h⟩
  · have e0 : z = xs.length := by omega
    subst e0
    exact .inl ⟨⟨xs, hl', Nat.le_refl _⟩, q _ _ (e2.trans e') ⟨D, acc, rfl, hD0, hd, hR⟩⟩
end
/-! ### what unlike_sorted keeps -/
def S0 : Srt := ⟨fun l => l.mergeSort fun a b => decide (a ≤ b), fun l v => (List.mergeSort_perm l _).mem_iff⟩
def ddP (l : List (Addr × List Int)) : Nat → List (Addr × List Int)
  | 0 => []
  | i + 1 => ddP l i ++ (if i = 0 ∨ (l.map (·.2))[i - 1]? ≠ (l.map (·.2))[i]? then (l[i]?).toList else [])
theorem ddP_map (l : List (Addr × List Int)) : ∀ i, (ddP l i).map (·.2) = ddTo (l.map (·.2)) i
  | 0 => rfl
  | i + 1 => by
    show (ddP l i ++ _).map _ = ddTo _ i ++ _
    rw [List.map_append, ddP_map l i]
    congr 1
    split
    · rw [List.getElem?_map]
      cases l[i]? <;> rfl
    · rfl
theorem ddP_mem (l : List (Addr × List Int)) : ∀ i q, q ∈ ddP l i → q ∈ l := by
  intro i
  induction i with
  | zero => intro q h; cases h
  | succ i ih =>
    intro q h
    rcases List.mem_append.mp h with z | z
    · exact ih q z
    · split at z
      · rw [Option.mem_toList] at z; exact List.mem_of_getElem? z
      · cases z
theorem ddP_len (l : List (Addr × List Int)) : ∀ i, (ddP l i).length ≤ i := by
  intro i
  induction i with
  | zero => exact Nat.le_refl _
  | succ i ih =>
    show (ddP l i ++ _).length ≤ i + 1
    rw [List.length_append]
    split
    · cases l[i]? <;> simp <;> omega
    · simp; omega
abbrev rfs (l : List (Addr × List Int)) : List V := l.map fun q => V.ref q.1
section
variable {P : Program} {w : World} {K : PySem.W.Frag} {mg : Str → Option Value} {base : Heap} {C : Addr}
/-- unlike_sorted -/
abbrev prUS (K : PySem.W.Frag) : Pr := fun vs H P => ∃ a ps, vs = [.ref a] ∧ SqL K H a (rfs ps) ∧ (∀ q ∈ ps, H q.1 = some (.lst (isI q.2))) ∧ ps.length ≤ 10000 ∧
  P = fun v H' => ∃ D qs, v = .ref D ∧ H D = none ∧ H' D = some (.lst (rfs qs)) ∧ (∀ q ∈ qs, q ∈ ps) ∧ qs.map (·.2) = usort S0 (ps.map (·.2))
theorem sc31 : FnScope ["orders", "found", "at", "order"] ["orders"] (defScope (top 31)) := ⟨rfl, rfl, rfl, by decide +kernel, rfl, by decide +kernel, by decide +kernel⟩
theorem sort_map (ps : List (Addr × List Int)) : (ps.mergeSort leP).map (·.2) = S0.f (ps.map (·.2)) := List.map_mergeSort fun a _ b _ => rfl
theorem df_us (F : FnP K mg "unlike_sorted" (top 31)) (B : Bl mg) : DF P w K mg base "unlike_sorted" 1 ["orders"] (spOf (prUS K)) := by
  refine df_mk F sc31 (fun vs H P ⟨a, ps, e, _⟩ => by rw [e]; rfl) (fun _ _ _ _ _ _ us hl => match us, hl with | [_], _ => rfl) ?_
  rintro f cdv A outer s H vs R E hr ⟨a, ps, rfl, ha, hps, hlen, rfl⟩
  have hu64 := hr.units
  refine vs_set (i := 1) sc31.nd (vn_callB (P := newL H (rfs (ps.mergeSort leP))) (cr_sortedLL hu64) B.sorted (by decide +kernel) (va1 (lv 0) stb_is) (by
    rintro _ H1 e1 ⟨_, rfl, rfl⟩ Q q
    exact ⟨a, ps, rfl, ex_l e1 ha, fun z hz => sq_of (e1 _ _ (hps z hz)), hlen, fun l hl => q _ _ (Ex.new hl) ⟨l, rfl, fresh_back e1 hl, upd_same⟩⟩)) fun _ H1 e1 hf => ?_
  obtain ⟨f1, rfl, hf0, hf⟩ := hf
  have hmem : ∀ q ∈ ps.mergeSort leP, q ∈ ps := fun q hq => (List.mergeSort_perm ps _).mem_iff.mp hq
  have hsl : (rfs (ps.mergeSort leP)).length = ps.length := by simp [rfs]
  refine vs_ret (vn_lcE (i := 2) (j := 3) (fun D z acc H' => acc = rfs (ddP (ps.mergeSort leP) z)) sc31.nd B.enum (lv 1) (⟨f1, rfl, sq_of hf⟩ : isL K (rfs (ps.mergeSort leP)) (.ref f1) H1) (by omega)
    (blkOk_by (own := [("at", 2), ("order", 3)]) (N := ["orders", "found", "at", "order"]) (sc := defScope (top 31)) (by decide +kernel)) (fun _ _ _ _ _ => pg_tup rfl (pgs_cons (pg_name (i := 2) sc31.nd rfl (Or.inl rfl)) (pgs_cons (pg_name (i := 3) sc31.nd rfl (Or.inl rfl)) pgs_nil))) (fun _ _ => rfl) (fun _ _ _ _ => rfl) ?_) ?_
  · intro D z x acc H' H2 hD e hd hz hR e2
    subst hR
    obtain ⟨hzl, ex⟩ := List.getElem?_eq_some_iff.mp hz
    rw [List.length_map] at hzl
    have ex : x = .ref ((ps.mergeSort leP)[z]).1 := by rw [← ex, List.getElem_map]
    subst ex
    have gt : ∀ i, (hi : i < (ps.mergeSort leP).length) → isL K (isI ((ps.mergeSort leP)[i]).2) (.ref ((ps.mergeSort leP)[i]).1) H2 := fun i hi => ⟨_, rfl, sq_of (e2 _ _ (e _ _ (e1 _ _ (hps _ (hmem _ (List.getElem_mem hi))))))⟩
    have hf2 : isL K (rfs (ps.mergeSort leP)) (.ref f1) H2 := ⟨f1, rfl, sq_of (e2 _ _ (e _ _ hf))⟩
    have gm : ∀ i, (hi : i < (ps.mergeSort leP).length) → ((ps.mergeSort leP).map (·.2))[i]? = some ((ps.mergeSort leP)[i]).2 := fun i hi => by rw [List.getElem?_map, List.getElem?_eq_getElem hi]; rfl
    refine ⟨decide (z = 0 ∨ ((ps.mergeSort leP).map (·.2))[z - 1]? ≠ ((ps.mergeSort leP).map (·.2))[z]?), Is (.ref ((ps.mergeSort leP)[z]).1), fun _ _ _ _ _ => vts_one (VT.to (VW.t (vw_or (c := decide (z = 0)) (c' := !decide (((ps.mergeSort leP)[z - 1]'(by omega)).2 = ((ps.mergeSort leP)[z]).2)) (VT.to (vt_eq (lv 2) ve_int) ?_) fun hz0 => vw_or1 (vt_neL hu64 ((ve_ixL (v := .ref ((ps.mergeSort leP)[z - 1]'(by omega)).1) (llv hf2 (lv 1)) (ve_sub (lv 2) ve_int) ?_).imp fun v' H3 e3 ev => ?_) (llv (gt z hzl) (lv 3))))) ?_), fun hc => ⟨fun _ _ _ _ _ => lv 3, fun v1 H3 _ ev => ?_⟩, fun hc H3 _ => ?_⟩
    · rw [dec_intV]; exact decide_eq_decide.mpr ⟨fun h => by omega, fun h => by omega⟩
    · have hz0 : ¬ z = 0 := of_decide_eq_false hz0
      rw [show (z : Int) - 1 = ((z - 1 : Nat) : Int) by omega]
      refine atI_nat ?_
      rw [List.getElem?_map, List.getElem?_eq_getElem (by omega)]
      rfl
    · rw [show v' = _ from ev]
      exact stb_isL _ _ _ e3 (gt (z - 1) (by omega))
    · rw [gm z hzl, gm (z - 1) (by omega)]
      by_cases h1 : z = 0 <;> by_cases h2 : ((ps.mergeSort leP)[z - 1]'(by omega)).2 = ((ps.mergeSort leP)[z]).2 <;> simp [h1, h2]
    · rw [show v1 = _ from ev]
      show rfs _ ++ _ = rfs (ddP _ z ++ _)
      rw [if_pos (of_decide_eq_true hc), List.getElem?_eq_getElem hzl]
      simp [rfs]
    · show rfs _ = rfs (ddP _ z ++ _)
      rw [if_neg (of_decide_eq_false hc), List.append_nil]
  · rintro v H2 e2 ⟨D, acc, rfl, hD, hd, hR⟩
    refine ⟨e1.trans e2, D, ddP (ps.mergeSort leP) (rfs (ps.mergeSort leP)).length, rfl, fresh_back e1 hD, by rw [hd, hR], fun q hq => hmem q (ddP_mem _ _ _ hq), ?_⟩
    rw [ddP_map, sort_map]
    unfold usort
    rw [← sort_map]
    simp [rfs]
/-- nexts_below -/
abbrev prNx (K : PySem.W.Frag) (C : Addr) : Pr := fun vs H P => ∃ v u k o, vs = [v, u] ∧ KAt C k v H ∧ isL K (isI o) u H ∧ VL k o ∧ k.ok ∧ k.n ≤ 7 ∧ crs k o ≤ 60 ∧ P = newLL H (nexts k S0 o)
theorem sc32 : FnScope ["kind", "order", "row", "found", "at", "item"] ["kind", "order"] (defScope (top 32)) := ⟨rfl, rfl, rfl, by decide +kernel, rfl, by decide +kernel, by decide +kernel⟩
theorem cut_take (l : List Nat) (i : Nat) (h : i ≤ l.length) : cutV (isN l) none (some (i : Int)) = isN (l.take i) := by
  unfold cutV
  rw [HT.sIx_nat]
  show ((isN l).drop 0).take (min i (isN l).length - 0) = _
  rw [List.drop_zero, Nat.sub_zero, List.length_map, Nat.min_eq_left h, isN, isN, List.map_take]
theorem cut_drop (l : List Nat) (i : Nat) (h : i ≤ l.length) : cutV (isN l) (some (i : Int)) none = isN (l.drop i) := by
  rw [cutV_drop _ _ (by rw [List.length_map]; exact h), isN, isN, List.map_drop]
theorem range_map_succ {α : Type} (f : Nat → α) (j : Nat) : (List.range (j + 1)).map f = (List.range j).map f ++ [f j] := by
  rw [List.range_succ, List.map_append]; rfl
theorem df_nx (F : FnP K mg "nexts_below" (top 32)) (B : Bl mg) (D1 : DF P w K mg base "least_row_of" 4 ["kind", "order"] (spOf (prRow K C))) (D2 : DF P w K mg base "made_by" 3 ["kind", "row"] (spOf (prMade K C))) (D3 : DF P w K mg base "crossings_of" 3 ["kind", "order"] (spOf (prCrs K C))) (D4 : DF P w K mg base "unlike_sorted" 1 ["orders"] (spOf (prUS K))) : DF P w K mg base "nexts_below" 5 ["kind", "order"] (spOf (prNx K C)) := by
  refine df_mk F sc32 (fun vs H P ⟨v, u, k, o, e, _⟩ => by rw [e]; rfl) (fun _ _ _ _ _ _ us hl => match us, hl with | [_, _], _ => rfl) ?_
  rintro f cdv A outer s H vs R E hr ⟨v, u, k, o, rfl, hv, hu, hV, hk, hn7, hcr, rfl⟩
  obtain ⟨hn, hr2⟩ := ok_n hk
  obtain ⟨r1, r2, r3⟩ := rowOf_ok hk false hV
  refine vs_set (i := 2) sc32.nd (vn_call D1 hr (va2 (kv (i := 0) hv (lv 0)) (llv hu (lv 1)) stb_K stb_isL) (P := newL H (isN (rowOf k false o))) (by
    rintro _ H2 e2 ⟨x, y, rfl, hx, hy⟩
    exact ⟨_, ⟨x, y, k, o, rfl, hx, hy, hV, hk, hn7, by omega, rfl⟩, fun u H3 e3 eu => eu.back e2⟩)) fun rv H1 e1 hrv => ?_
  generalize hrow : rowOf k false o = row at *
  have hrl : isL K (isN row) rv H1 := hrv.l
  refine vs_lcR1 (i := 4) (iy := 3) (fun D j acc H' => ∃ ps : List (Addr × List Int), acc = rfs ps ∧ ps.map (·.2) = (List.range j).map (fun i => made k (delAt row i)) ∧ ∀ q ∈ ps, q.1 ≠ D ∧ H1 q.1 = none ∧ H' q.1 = some (.lst (isI q.2))) sc32.nd B.range (ve_len B.len (llv hrl (lv 2))) (by rw [List.length_map]; omega)
    (blkOk_by (own := [("at", 4)]) (N := ["kind", "order", "row", "found", "at", "item"]) (sc := defScope (top 32)) (by decide +kernel)) (fun _ _ _ _ _ => pg_name (i := 4) sc32.nd rfl (Or.inl rfl)) (fun _ => rfl) (fun D H2 _ _ => ⟨[], rfl, rfl, fun q h => by cases h⟩) ?_ ?_ rfl
  · intro D j acc H' hD e hd hj hR
    obtain ⟨ps, rfl, h1, h2⟩ := hR
    rw [List.length_map] at hj
    have hjl : j < row.length := by omega
    have hv' := stb_K _ _ _ (e1.trans e) hv
    have hrl' := stb_isL _ _ _ e hrl
    refine ⟨true, newL H' (isI (made k (delAt row j))), fun _ _ _ _ _ => vts_nil, fun _ => ⟨fun _ _ _ _ _ => vn_call D2 (hr.mono (by decide)) (va2 (kv (i := 0) hv' (lv 0)) (vn_cat (xs := isN (row.take j)) (ys := isN (row.drop (j + 1))) ((vn_sl (llv hrl' (lv 2)) po_none (po_some pe_any) eo_none ((lv 4 : VE _ _ _ _ (.int (j : Int))).ev)).imp fun _ _ _ h => ?_) ((vn_sl (llv hrl' (lv 2)) (po_some pe_any) po_none ((ve_add (lv 4) ve_int : VE _ _ _ _ (.int ((j : Int) + 1))).ev) eo_none).imp fun _ _ _ h => ?_) ?_) stb_K stb_newL) ?_, fun v1 H2 e2 hv1 => ?_⟩, fun h => by cases h⟩
    · rw [cut_take row j (by omega)] at h; exact h.t
    · rw [show (j : Int) + 1 = ((j + 1 : Nat) : Int) by omega, cut_drop row (j + 1) (by omega)] at h; exact h.t
    · simp [isN]; omega
    · rintro _ H2 e2 ⟨x, y, rfl, hx, hy⟩
      refine ⟨_, ⟨x, y, k, delAt row j, rfl, hx, ?_, delAt_row r1 j, hk, hn7, rfl⟩, fun u H3 e3 eu => eu.back e2⟩
      have : isN (row.take j) ++ isN (row.drop (j + 1)) = isN (delAt row j) := by unfold delAt; rw [isN, isN, isN, List.map_append]
      rw [this] at hy
      exact hy.l
    · obtain ⟨z, rfl, hz0, hz⟩ := hv1
      have hzD : z ≠ D := fun q => by rw [q, hd] at hz0; cases hz0
      refine ⟨ps ++ [(z, made k (delAt row j))], by simp [rfs], by rw [List.map_append, h1, range_map_succ]; rfl, fun q hq => ?_⟩
      rcases List.mem_append.mp hq with hq | hq
      · obtain ⟨g1, g2, g3⟩ := h2 q hq
        exact ⟨g1, g2, by rw [upd_ne g1]; exact e2 _ _ g3⟩
      · rw [List.mem_singleton.mp hq]
        exact ⟨hzD, fresh_back e hz0, by rw [upd_ne hzD]; exact hz⟩
  · rintro _ H2 e2 ⟨D, acc, rfl, hD, hd, ps, rfl, hm, hps⟩
    rw [List.length_map, Int.toNat_natCast] at hm
    have hm : ps.map (·.2) = delsOf k row := hm
    have hpl : ps.length = row.length := by have := congrArg List.length hm; simpa [delsOf] using this
    have hv2 := stb_K _ _ _ (e1.trans e2) hv
    have hrl2 := stb_isL _ _ _ e2 hrl
    have hlen : ∀ q ∈ ps, q.2.length = k.n := fun q hq => by
      have : q.2 ∈ delsOf k row := by rw [← hm]; exact List.mem_map_of_mem hq
      obtain ⟨i, _, e⟩ := List.mem_map.mp this
      rw [← e]; exact made_len _ _
    have hfl : ∀ j (hj : j < ps.length), (ps.take (j + 1)).filter (fun q => decide ((crs k q.2 : Int) = (row.length : Int) - 1)) = (ps.take j).filter (fun q => decide ((crs k q.2 : Int) = (row.length : Int) - 1)) ++ if decide ((crs k ps[j].2 : Int) = (row.length : Int) - 1) = true then [ps[j]] else [] := fun j hj => by
      rw [List.take_succ, List.getElem?_eq_getElem hj, List.filter_append]
      by_cases h : (crs k ps[j].2 : Int) = (row.length : Int) - 1 <;> simp [h]
    refine vs_ret (vn_call D4 (hr.mono (by decide)) (va1 (vn_lcL (i := 5) (fun D' j acc H' => acc = rfs ((ps.take j).filter fun q => decide ((crs k q.2 : Int) = (row.length : Int) - 1))) sc32.nd (llv (⟨D, rfl, sq_of hd⟩ : isL K (rfs ps) (.ref D) H2) (lv 3)) (by rw [List.length_map]; omega)
      (blkOk_by (own := [("item", 5)]) (N := ["kind", "order", "row", "found", "at", "item"]) (sc := defScope (top 32)) (by decide +kernel)) (fun _ _ _ _ _ => pg_name (i := 5) sc32.nd rfl (Or.inl rfl)) (fun _ => rfl) (fun D H2 _ _ => rfl) ?_) ?_) (P := newLL H1 (nexts k S0 o)) ?_) fun v4 H4 e4 h => ⟨(e1.trans e2).trans e4, h.back e1⟩
    · intro D' j x acc H' hD' e hd' hj hR
      subst hR
      obtain ⟨hjl, ex⟩ := List.getElem?_eq_some_iff.mp hj
      rw [List.length_map] at hjl
      have ex : x = .ref (ps[j]).1 := by rw [← ex, List.getElem_map]
      subst ex
      have hit : isL K (isI (ps[j]).2) (.ref (ps[j]).1) H' := ⟨_, rfl, sq_of (e _ _ (hps _ (List.getElem_mem hjl)).2.2)⟩
      refine ⟨decide ((crs k ps[j].2 : Int) = (row.length : Int) - 1), Is (.ref (ps[j]).1), fun _ _ _ _ _ => vts_one (VT.to (vt_eq (vn_call D3 (hr.mono (by decide)) (va2 (kv (i := 0) (stb_K _ _ _ e hv2) (lv 0)) (llv hit (lv 5)) stb_K stb_isL) (P := Is (.int (crs k ps[j].2 : Nat))) (by
        rintro _ H3 e3 ⟨x, y, rfl, hx, hy⟩
        exact ⟨_, ⟨x, y, k, _, rfl, hx, hy, hlen _ (List.getElem_mem hjl), hn, hn7, rfl⟩, fun u H5 e5 eu => eu⟩)) (ve_sub (ve_len B.len (llv (stb_isL _ _ _ e hrl2) (lv 2))) ve_int)) (by rw [dec_intV, List.length_map])), fun hc => ⟨fun _ _ _ _ _ => lv 5, fun v1 H3 _ ev => ?_⟩, fun hc H3 _ => ?_⟩
      · rw [show v1 = _ from ev, hfl j hjl, if_pos hc]
        simp [rfs]
      · rw [hfl j hjl, if_neg (by rw [hc]; decide), List.append_nil]
    · exact fun v H H' e ⟨D', acc, h1, h2, h3, h4⟩ => ⟨D', acc, h1, h2, e _ _ h3, h4⟩
    · rintro _ H3 e3 ⟨_, rfl, D', acc, rfl, hD', hd', hacc⟩
      subst hacc
      rw [List.length_map, List.take_length] at hd'
      refine ⟨_, ⟨D', _, rfl, sq_of hd', fun q hq => e3 _ _ (hps q (List.mem_filter.mp hq).1).2.2, by have := List.length_filter_le (fun q : Addr × List Int => decide ((crs k q.2 : Int) = (row.length : Int) - 1)) ps; omega, rfl⟩, ?_⟩
      rintro _ H5 e5 ⟨D2, qs, rfl, hD2, hd2, hq1, hq2⟩
      refine ⟨D2, qs.map (·.1), rfl, fresh_back (e2.trans e3) hD2, by rw [hd2, List.map_map]; rfl, ?_⟩
      have hn' : nexts k S0 o = qs.map (·.2) := by
        rw [hq2]
        unfold nexts nextsRaw
        rw [hrow, ← hm, List.filter_map]
        rfl
      rw [hn']
      exact paired_of qs fun q hq => ⟨(hps q (List.mem_filter.mp (hq1 q hq)).1).2.1, e5 _ _ (e3 _ _ (hps q (List.mem_filter.mp (hq1 q hq)).1).2.2)⟩
end
end W47
namespace W47
open PySem PySem.Spec PyProof.Rows L2 Evl C47
section
variable {X : Cx} {σ : L2.St} {H H' : Hp} {elt a l : Expr} {ifs : List Expr} {scope : Scope} {pos : Pos} {u : V} {n m : Str} {P P' : PV}
/-- [e for x in xs if ..], xs known only when it has come -/
theorem vn_lcLx {i : Nat} {p' : Pos} (hN : X.N.Nodup) (ha : VN X l σ H P) (ok : BlkOk X.N X.env.scope scope [(n, i)]) (hgn : BK X scope fun Y => PG Y (.Name n p') (gName i)) (hw : ∀ x, wipe ((wipe σ [i]).set i (some x)) [i] = wipe σ [i])
    (h : ∀ v H1, Ex H H1 → P v H1 → ∃ (xs : List V) (Rv : Addr → Nat → List V → Hp → Prop), isL X.K xs v H1 ∧ xs.length ≤ 40000 ∧ (∀ D, H1 D = none → Rv D 0 [] (upd H1 D (.lst []))) ∧
      (∀ D j x acc H', H1 D = none → Ex H1 H' → H' D = some (.lst acc) → xs[j]? = some x → Rv D j acc H' → LcTurn X scope ifs elt ((wipe σ [i]).set i (some x)) H' D acc fun acc' H2 => Rv D (j + 1) acc' H2) ∧
      ∀ D acc H2, Ex H1 H2 → H1 D = none → H2 D = some (.lst acc) → Rv D xs.length acc H2 → P' (.ref D) H2)
    (hc : X.calm = true := by rfl) (hit : ∀ x, foldedSetIterable l X.env x = pure x := by intro _; rfl) : VN X (.ListComp elt [⟨.Name n p', l, ifs, 0⟩] scope pos) σ H P' := by
  refine vn_by (pe_lc (own := [(n, i)]) hc hN (pi_list pe_any) ok hgn pts_bk pe_bk hit) fun H1 e1 Q q => ?_
  refine ha H1 e1 _ fun v H2 e2 pv => ?_
  obtain ⟨xs, Rv, ⟨a, ev, hx⟩, hz, h0, hs, hd⟩ := h v H2 (e1.trans e2) pv
  refine ⟨a, ev, ⟨xs, hx⟩, fun D hD => ?_⟩
  refine lc_list (K := X.K) (a := a) (xs := xs) (fun j H' => ∃ acc, acc.length ≤ j ∧ Ex H2 H' ∧ H' D = some (.lst acc) ∧ Rv D j acc H') ⟨[], Nat.le_refl _, Ex.new hD, upd_same, h0 D hD⟩ (fun j H' _ ⟨acc, _, e, _⟩ => ex_l e hx) (fun j x H' hj ⟨acc, hl, e, hd', hR⟩ => ⟨hw x, ?_⟩) fun H' ⟨acc, _, e, hd', hR⟩ => q _ _ (e2.trans e) (hd D acc H' e hD hd' hR)
  have hjl := (List.getElem?_eq_some_iff.mp hj).1
  have tn := hs D j x acc H' hD e hd' hj hR
  obtain ⟨c, P, t1, t2, t3⟩ := tn
  refine lc_turn (Nx := fun acc' H2' => acc'.length ≤ j + 1 ∧ Ex H2 H2' ∧ H2' D = some (.lst acc') ∧ Rv D (j + 1) acc' H2') hd' (by omega) ⟨c, P, t1, fun hc' => ⟨(t2 hc').1, fun v H1' e' pv => ⟨by simp; omega, Ex.mut (e.trans e') hD, upd_same, (t2 hc').2 v H1' e' pv⟩⟩, fun hc' H1' e' => ⟨by omega, e.trans e', e' D _ hd', t3 hc' H1' e'⟩⟩ fun acc' H2' h => ⟨acc', h⟩
end
theorem filter_take_succ {α : Type} (p : α → Bool) (l : List α) (j : Nat) (h : j < l.length) : (l.take (j + 1)).filter p = (l.take j).filter p ++ if p l[j] = true then [l[j]] else [] := by
  rw [List.take_succ, List.getElem?_eq_getElem h, List.filter_append]
  cases e : p l[j] <;> simp [e]
section
variable {P : Program} {w : World} {K : PySem.W.Frag} {mg : Str → Option Value} {base : Heap} {C : Addr}
abbrev prClimb (K : PySem.W.Frag) (C : Addr) : Pr := fun vs H P => ∃ v u1 u2 k o1 o2, vs = [v, u1, u2] ∧ KAt C k v H ∧ isL K (isI o1) u1 H ∧ isL K (isI o2) u2 H ∧ Okd k o1 ∧ Okd k o2 ∧ k.ok ∧ k.n ≤ 7 ∧
  P = fun v' H' => (bel k o1 o2 = true ∧ newLL H (climbL k S0 o1 o2) v' H') ∨ (bel k o1 o2 = false ∧ v' = .non)
theorem sc33 : FnScope ["kind", "one", "other", "found", "item"] ["kind", "one", "other"] (defScope (top 33)) := ⟨rfl, rfl, rfl, by decide +kernel, rfl, by decide +kernel, by decide +kernel⟩
theorem df_climb (F : FnP K mg "climb" (top 33)) (B : Bl mg) (D1 : DF P w K mg base "check_two_orders" 6 ["kind", "one", "other"] (spOf (prC2 K C))) (D2 : DF P w K mg base "is_below" 4 ["kind", "one", "other"] (spOf (prBel K C))) (D3 : DF P w K mg base "nexts_below" 5 ["kind", "order"] (spOf (prNx K C))) : DF P w K mg base "climb" 7 ["kind", "one", "other"] (spOf (prClimb K C)) := by
  refine df_mk F sc33 (fun vs H P ⟨v, u1, u2, k, o1, o2, e, _⟩ => by rw [e]; rfl) (fun _ _ _ _ _ _ us hl => match us, hl with | [_, _, _], _ => rfl) ?_
  rintro f cdv A outer s H vs R E hr ⟨v, u1, u2, k, o1, o2, rfl, hv, hu1, hu2, h1, h2, hk, hn7, rfl⟩
  obtain ⟨hn, hr2⟩ := ok_n hk
  have hu64 := hr.units
  refine vs_expr (P := Is .non) (vn_call D1 hr (va3 (kv (i := 0) hv (lv 0)) (llv hu1 (lv 1)) (llv hu2 (lv 2)) stb_K stb_isL stb_isL) (by
    rintro _ H2 e2 ⟨x, y, z, rfl, hx, hy, hz⟩
    exact ⟨_, ⟨x, y, z, k, o1, o2, rfl, hx, hy, hz, h1, h2, hk, hn7, rfl⟩, fun u H3 e3 eu => eu⟩)) fun _ H1 e1 _ => ?_
  have hv1 := stb_K _ _ _ e1 hv
  have hu11 := stb_isL _ _ _ e1 hu1
  have hu21 := stb_isL _ _ _ e1 hu2
  refine vs_ifret (c := !bel k o1 o2) (P := Is .non) (vt_not (vt_val (vn_call D2 (hr.mono (by decide)) (va3 (kv (i := 0) hv1 (lv 0)) (llv hu11 (lv 1)) (llv hu21 (lv 2)) stb_K stb_isL stb_isL) (by
    rintro _ H2 e2 ⟨x, y, z, rfl, hx, hy, hz⟩
    exact ⟨_, ⟨x, y, z, k, o1, o2, rfl, hx, hy, hz, VL.len h1.1, h2.1, hk, hn7, rfl⟩, fun u H3 e3 eu => eu⟩)))) (fun _ => ve_non) (fun hc v2 H2 e2 p => ⟨e1.trans e2, .inr ⟨by cases hb : bel k o1 o2 <;> simp [hb] at hc ⊢, p⟩⟩) fun hc H2 e2 => ?_
  have hb : bel k o1 o2 = true := by cases hb : bel k o1 o2 <;> simp [hb] at hc ⊢
  have hle := (bel_le hk h1.1 h2.1).mp hb
  have hu22 := stb_isL _ _ _ e2 hu21
  refine vs_set (i := 3) sc33.nd (vn_lst (va1 (vn_list B.list (llv hu22 (lv 2))) stb_newL) (fun vs H H' e ⟨v, h, hn⟩ => ⟨v, h, stb_newL _ _ _ e hn⟩) (fun vs H' ⟨v, h, _⟩ => by rw [h]; simp)) fun _ H3 e3 hf => ?_
  obtain ⟨q, xs, rfl, hq0, hq, va, rfl, a, rfl, ha0, ha⟩ := hf
  have hlen2 := VL.len h2.1
  have haq : a ≠ q := fun z => by
    rw [z, hq] at ha
    have e : [V.ref a] = isI o2 := HO.lst.inj (Option.some.inj ha)
    match o2, e with
    | x :: o, e => cases (List.cons.inj e).1
  have e03 := (e1.trans e2).trans e3
  have hq00 : H q = none := fresh_back (e1.trans e2) hq0
  refine vs_while (fun m σ' H' => ∃ ps a w', σ' = [some v, some u1, some u2, some (.ref q), none] ∧ Ex H H' ∧ H' q = some (.lst (rfs (ps ++ [(a, w')]))) ∧ (∀ z ∈ ps ++ [(a, w')], z.1 ≠ q ∧ H z.1 = none ∧ H' z.1 = some (.lst (isI z.2))) ∧ LeK k o1 w' ∧ VL k w' ∧ ps.map (·.2) ++ climbTo k S0 o1 (crs k w' - crs k o1) w' = climbTo k S0 o1 (crs k o2 - crs k o1) o2 ∧ ps.length + crs k w' = crs k o2 ∧ m = crs k w')
    _ ⟨[], a, o2, rfl, e03, hq, fun z hz => by rw [List.mem_singleton.mp hz]; exact ⟨haq, fresh_back (e1.trans e2) ha0, ha⟩, hle, h2.1, rfl, by simp, rfl⟩ ?_
  rintro m σ' H' ⟨ps, a', w', rfl, e, hq', hz, hle', hV', hcl, hlen, rfl⟩
  have hc60 := h2.2
  obtain ⟨hz1, hz2, hz3⟩ := hz (a', w') (List.mem_append_right _ (List.mem_singleton.mpr rfl))
  have hv' := stb_K _ _ _ e hv
  have hu1' := stb_isL _ _ _ e hu1
  have lastE : ∀ {H4}, Ex H' H4 → isL K (rfs (ps ++ [(a', w')])) (.ref q) H4 := fun {H4} e4 => ⟨q, rfl, sq_of (e4 _ _ hq')⟩
  have at1 : atI (rfs (ps ++ [(a', w')])) (-1) = some (.ref a') := by
    show atI (List.map _ (ps ++ [(a', w')])) (-1) = _
    rw [List.map_append]
    exact atI_last _ _
  have la : ∀ {H4}, Ex H' H4 → isL K (isI w') (.ref a') H4 := fun {H4} e4 => ⟨a', rfl, sq_of (e4 _ _ hz3)⟩
  refine ⟨!decide (w' = o1), vt_neL hu64 ((ve_ixL (llv (lastE (Ex.refl _)) (lv 3)) (ve_neg ve_int) at1).imp fun v4 H4 e4 ev => by rw [show v4 = _ from ev]; exact la e4) (llv hu1' (lv 1)), fun hc H4 e4 => ?_, fun hc H4 e4 => ?_⟩
  · have ne : w' ≠ o1 := fun z => by rw [z] at hc; simp at hc
    obtain ⟨v0, r, g1, g2, g3, g4, g5⟩ := climbTo_turn hk (S := S0) hle' ne
    have hv4 := stb_K _ _ _ e4 hv'
    have hu14 := stb_isL _ _ _ e4 hu1'
    have hq4 := e4 _ _ hq'
    refine vs_app hq4 (lv 3) (vn_ixL (i := 0) (P := newL H4 (isI v0)) (R := fun xs H6 => ∃ a r, xs = V.ref a :: r ∧ H4 a = none ∧ H6 a = some (.lst (isI v0))) (vn_lcLx (i := 4) sc33.nd (vn_call D3 (hr.mono (by decide)) (va2 (P2 := isL K (isI w')) (kv (i := 0) hv4 (lv 0)) ((ve_ixL (v := .ref a') (llv (lastE e4) (lv 3)) (ve_neg ve_int) at1).imp fun v5 H5 e5 ev => ?_) stb_K stb_isL) (P := newLL H4 (nexts k S0 w')) ?_)
      (blkOk_by (own := [("item", 4)]) (N := ["kind", "one", "other", "found", "item"]) (sc := defScope (top 33)) (by decide +kernel)) (fun _ _ _ _ _ => pg_name (i := 4) sc33.nd rfl (Or.inl rfl)) (fun _ => rfl) ?_) ve_int ?_ ?_) stb_newL ?_ ?_
    · rw [show v5 = _ from ev]; exact la (e4.trans e5)
    · rintro _ H5 e5 ⟨x, y, rfl, hx, hy⟩
      exact ⟨_, ⟨x, y, k, w', rfl, hx, hy, hV', hk, hn7, by omega, rfl⟩, fun u H6 e6 eu => eu.back e5⟩
    · -- the comprehension over what is next below
      rintro _ H5 e5 ⟨p, as, rfl, hp0, hp, hpa⟩
      obtain ⟨z1, z2, z3⟩ := paired_zip hpa
      generalize hqs : as.zip (nexts k S0 w') = qs at z1 z2 z3
      have hxs : as.map V.ref = rfs qs := by rw [← z1, List.map_map]; rfl
      have hqV : ∀ z ∈ qs, VL k z.2 := fun z hz => ((mem_nexts hk (S := S0) hV').mp (by rw [← z2]; exact List.mem_map_of_mem hz)).1
      refine ⟨rfs qs, fun D j acc H6 => acc = rfs ((qs.take j).filter fun z => bel k o1 z.2), ⟨p, rfl, sq_of (by rw [hp, hxs])⟩, ?_, fun _ _ => rfl, ?_, ?_⟩
      · have : qs.length = (nexts k S0 w').length := by rw [← z2, List.length_map]
        rw [List.length_map, this]
        have hle : (nexts k S0 w').length ≤ crs k w' := by
          have h1 : (nexts k S0 w').length ≤ (nextsRaw k w').length := by
            unfold nexts usort
            have : ∀ (l : List (List Int)) i, (ddTo l i).length ≤ i := by
              intro l i
              induction i with
              | zero => exact Nat.le_refl _
              | succ i ih =>
                show (ddTo l i ++ _).length ≤ i + 1
                rw [List.length_append]
                split
                · cases l[i]? <;> simp <;> omega
                · simp; omega
            refine Nat.le_trans (this _ _) ?_
            show (List.mergeSort _ _).length ≤ _
            rw [List.length_mergeSort]
            exact Nat.le_refl _
          have h2 : (nextsRaw k w').length ≤ crs k w' := by
            unfold nextsRaw
            refine Nat.le_trans (List.length_filter_le _ _) ?_
            unfold delsOf
            rw [List.length_map, List.length_range, (rowOf_ok hk false hV').2.2]
            exact Nat.le_refl _
          omega
        omega
      · intro D j x acc H6 hD e6 hd hj hR
        subst hR
        obtain ⟨hjl, ex⟩ := List.getElem?_eq_some_iff.mp hj
        rw [List.length_map] at hjl
        have ex : x = .ref (qs[j]).1 := by rw [← ex, List.getElem_map]
        subst ex
        have hit : isL K (isI (qs[j]).2) (.ref (qs[j]).1) H6 := ⟨_, rfl, sq_of (e6 _ _ (z3 _ (List.getElem_mem hjl)).2)⟩
        refine ⟨bel k o1 (qs[j]).2, Is (.ref (qs[j]).1), fun _ _ _ _ _ => vts_one (vt_val (vn_call D2 (hr.mono (by decide)) (va3 (kv (i := 0) (stb_K _ _ _ (e5.trans e6) hv4) (lv 0)) (llv (stb_isL _ _ _ (e5.trans e6) hu14) (lv 1)) (llv hit (lv 4)) stb_K stb_isL stb_isL) (by
          rintro _ H7 e7 ⟨x, y, z, rfl, hx, hy, hz⟩
          exact ⟨_, ⟨x, y, z, k, o1, _, rfl, hx, hy, hz, VL.len h1.1, hqV _ (List.getElem_mem hjl), hk, hn7, rfl⟩, fun u H8 e8 eu => eu⟩))), fun hc => ⟨fun _ _ _ _ _ => lv 4, fun v1 H7 _ ev => ?_⟩, fun hc H7 _ => ?_⟩
        · show _ = rfs ((qs.take (j + 1)).filter fun z => bel k o1 z.2)
          rw [show v1 = _ from ev, filter_take_succ _ _ _ hjl, if_pos hc]
          simp [rfs]
        · show _ = rfs ((qs.take (j + 1)).filter fun z => bel k o1 z.2)
          rw [filter_take_succ _ _ _ hjl, if_neg (by rw [hc]; decide), List.append_nil]
      · intro D acc H6 e6 hD hd hR
        subst hR
        rw [List.length_map, List.take_length] at hd
        have hg : (qs.filter fun z => bel k o1 z.2).map (·.2) = v0 :: r := by
          rw [← g1]
          unfold goods
          rw [← z2, List.filter_map]
          rfl
        cases hqf : qs.filter fun z => bel k o1 z.2 with
        | nil => rw [hqf] at hg; cases hg
        | cons z rest =>
          rw [hqf] at hg hd
          have hz : z ∈ qs := (List.mem_filter.mp (show z ∈ qs.filter fun z => bel k o1 z.2 by rw [hqf]; exact List.mem_cons_self)).1
          obtain ⟨t1, t2⟩ := z3 z hz
          have e0 : z.2 = v0 := (List.cons.inj hg).1
          exact ⟨D, _, rfl, sq_of hd, z.1, rfs rest, rfl, t1, by rw [e6 _ _ t2, e0]⟩
    · exact fun xs H H' e ⟨a, r, h1, h2, h3⟩ => ⟨a, r, h1, h2, e _ _ h3⟩
    · rintro _ H6 e6 ⟨a, r, rfl, h1, h2⟩
      exact ⟨.ref a, atI_nat (j := 0) rfl, a, rfl, h1, h2⟩
    · simp [rfs]; omega
    · rintro _ H5 e5 ⟨b, rfl, hb0, hb1⟩
      have hbq : b ≠ q := fun z => by rw [z, hq4] at hb0; cases hb0
      have eH : Ex H (upd H5 q (.lst (rfs (ps ++ [(a', w')]) ++ [.ref b]))) := Ex.mut ((e.trans e4).trans e5) hq00
      refine vs_nil ⟨crs k v0, by omega, ps ++ [(a', w')], b, v0, rfl, eH, by rw [upd_same]; simp [rfs], fun z hz' => ?_, g3, g2, ?_, by simp; omega, rfl⟩
      · rcases List.mem_append.mp hz' with hz' | hz'
        · obtain ⟨t1, t2, t3⟩ := hz z hz'
          exact ⟨t1, t2, by rw [upd_ne t1]; exact e5 _ _ (e4 _ _ t3)⟩
        · rw [List.mem_singleton.mp hz']
          exact ⟨hbq, fresh_back (e.trans e4) hb0, by rw [upd_ne hbq]; exact hb1⟩
      · rw [← hcl, g5, List.map_append, List.append_assoc]
        rfl
  · have ew : w' = o1 := by
      refine Decidable.byContradiction fun z => ?_
      rw [decide_eq_false z] at hc
      cases hc
    refine vs_ret (vn_rev (llv (lastE e4) (lv 3))) fun v5 H5 e5 h => ⟨(e.trans e4).trans e5, .inl ⟨hb, ?_⟩⟩
    obtain ⟨z, rfl, hz0, hzz⟩ := h.back (e.trans e4)
    refine ⟨z, (ps ++ [(a', w')]).reverse.map (·.1), rfl, hz0, by rw [hzz, List.map_map, ← List.map_reverse]; rfl, ?_⟩
    have ecl : climbL k S0 o1 o2 = (ps ++ [(a', w')]).reverse.map (·.2) := by
      unfold climbL
      rw [← hcl, ew, climbTo_end, List.map_reverse, List.map_append]
      rfl
    rw [ecl]
    exact paired_of _ fun y hy => by
      obtain ⟨t1, t2, t3⟩ := hz y (List.mem_reverse.mp hy)
      exact ⟨t2, e5 _ _ (e4 _ _ t3)⟩
end
end W47
namespace W47
open PySem PySem.Spec PyProof.Rows L2 Evl C47
/-! ### a value that is told a climb or no climb -/
open Classical in
noncomputable def clB (k : Kd) (o1 o2 : List Int) (d : PyData) : Bool := decide (∃ vs, d = dLL vs ∧ (∀ v ∈ vs, VL k v) ∧ IsClimb k o1 o2 vs)
theorem clB_iff {k : Kd} {o1 o2 : List Int} {d : PyData} : clB k o1 o2 d = true ↔ ∃ vs, d = dLL vs ∧ (∀ v ∈ vs, VL k v) ∧ IsClimb k o1 o2 vs := by unfold clB; exact @decide_eq_true_iff _ (Classical.propDecidable _)
theorem clB_no {k : Kd} {o1 o2 : List Int} {d : PyData} (h : ¬ ∃ vs, d = dLL vs ∧ (∀ v ∈ vs, VL k v) ∧ IsClimb k o1 o2 vs) : clB k o1 o2 d = false := by
  cases e : clB k o1 o2 d with
  | false => rfl
  | true => exact absurd (clB_iff.mp e) h
/-- the values that are asked -/
inductive VDp (K : PySem.W.Frag) (H : Hp) : V → PyData → Prop
  | non : VDp K H .non .none
  | dic {a : Addr} (h : H a = some (.dK [])) : VDp K H (.ref a) (.dict [])
  | lst {u : V} {ds : List PyData} (h : Dp K H u (.list ds)) (hi : ∀ d ∈ ds, ItD d) (hl : ds.length ≤ 1000) : VDp K H u (.list ds)
  | tup {u : V} {ds : List PyData} (h : Dp K H u (.tuple ds)) : VDp K H u (.tuple ds)
theorem VDp.mono {K : PySem.W.Frag} {H H' : Hp} (e : Ex H H') {v : V} {d : PyData} (h : VDp K H v d) : VDp K H' v d := by
  cases h with
  | non => exact .non
  | dic h => exact .dic (e _ _ h)
  | lst h hi hl => exact .lst (Dp.mono e h) hi hl
  | tup h => exact .tup (Dp.mono e h)
theorem dL_inj {a b : List Int} (h : dL a = dL b) : a = b := by
  have e := asO_dL a
  rw [h, asO_dL] at e
  exact (Option.some.inj e).symm
theorem asO_some {d : PyData} {o : List Int} (h : asO d = some o) : d = dL o := by
  cases d with
  | list ds => rw [intsOf_some (show intsOf ds = some o from h)]
  | _ => cases h
theorem ordB_iff {k : Kd} {d : PyData} : ordB k d = true ↔ ∃ o, d = dL o ∧ VL k o := by
  constructor
  · intro h
    unfold ordB at h
    cases e : asO d with
    | none => rw [e] at h; cases h
    | some o => rw [e] at h; exact ⟨o, asO_some e, vlB_iff.mp h⟩
  · rintro ⟨o, rfl, v⟩
    rw [ordB_dL]
    exact vlB_iff.mpr v
theorem map_dL_inj : ∀ {a b : List (List Int)}, a.map dL = b.map dL → a = b
  | [], [], _ => rfl
  | [], _ :: _, h => by cases h
  | _ :: _, [], h => by cases h
  | x :: a, y :: b, h => by
    obtain ⟨h1, h2⟩ := List.cons.inj h
    rw [dL_inj h1, map_dL_inj h2]
theorem dLL_inj {a b : List (List Int)} (h : dLL a = dLL b) : a = b := map_dL_inj (PyData.list.inj h)
theorem all_ord {k : Kd} : ∀ {ds : List PyData}, (∀ d ∈ ds, ordB k d = true) → ∃ os : List (List Int), ds = os.map dL ∧ ∀ o ∈ os, VL k o
  | [], _ => ⟨[], rfl, fun o h => by cases h⟩
  | d :: ds, h => by
    obtain ⟨o, e, v⟩ := ordB_iff.mp (h d List.mem_cons_self)
    obtain ⟨os, e', v'⟩ := all_ord fun x hx => h x (List.mem_cons_of_mem _ hx)
    refine ⟨o :: os, by rw [e, e']; rfl, fun x hx => ?_⟩
    rcases List.mem_cons.mp hx with z | z
    · rw [z]; exact v
    · exact v' x z
/-! data, item by item -/
theorem dpall_zip {K : PySem.W.Frag} {H : Hp} : ∀ {xs : List V} {ds : List PyData}, DpAll K H xs ds → ∃ zs : List (V × PyData), xs = zs.map (·.1) ∧ ds = zs.map (·.2) ∧ ∀ z ∈ zs, Dp K H z.1 z.2
  | _, _, .nil => ⟨[], rfl, rfl, fun z h => by cases h⟩
  | _, _, .cons (v := v) (d := d) h t => by
    obtain ⟨zs, e1, e2, h'⟩ := dpall_zip t
    refine ⟨(v, d) :: zs, by rw [e1]; rfl, by rw [e2]; rfl, fun z hz => ?_⟩
    rcases List.mem_cons.mp hz with q | q
    · rw [q]; exact h
    · exact h' z q
theorem dpall_of {K : PySem.W.Frag} {H : Hp} : ∀ {zs : List (V × PyData)}, (∀ z ∈ zs, Dp K H z.1 z.2) → DpAll K H (zs.map (·.1)) (zs.map (·.2))
  | [], _ => .nil
  | z :: zs, h => .cons (h z List.mem_cons_self) (dpall_of fun x hx => h x (List.mem_cons_of_mem _ hx))
theorem dp_isI {K : PySem.W.Frag} {H : Hp} : ∀ {xs : List V} {o : List Int}, DpAll K H xs (o.map .int) → xs = isI o
  | _, [], .nil => rfl
  | _, _ :: _, .cons h t => by
    cases h
    rw [dp_isI t]; rfl
theorem dp_il {K : PySem.W.Frag} {H : Hp} {v : V} {o : List Int} (h : Dp K H v (dL o)) : isL K (isI o) v H := by
  cases h with
  | lst hs ha => rw [dp_isI ha] at hs; exact ⟨_, rfl, hs⟩
theorem dp_get {K : PySem.W.Frag} {H : Hp} : ∀ {xs : List V} {ds : List PyData}, DpAll K H xs ds → ∀ {i : Nat} {x : V}, xs[i]? = some x → ∃ d, ds[i]? = some d ∧ Dp K H x d
  | _, _, .cons h t, 0, x, e => by
    simp at e; subst e; exact ⟨_, rfl, h⟩
  | _, _, .cons h t, i + 1, x, e => by
    obtain ⟨d, h1, h2⟩ := dp_get t (i := i) (by simpa using e)
    exact ⟨d, by simpa using h1, h2⟩
theorem dp_len {K : PySem.W.Frag} {H : Hp} : ∀ {xs : List V} {ds : List PyData}, DpAll K H xs ds → xs.length = ds.length
  | _, _, .nil => rfl
  | _, _, .cons h t => by simp [dp_len t]
theorem sh_it {d : PyData} (h : ItD d) : Sh 1 d := by
  have fl : ∀ {ds : List PyData}, (∀ x ∈ ds, FlD x) → ∀ x ∈ ds, Sh 0 x := fun h x hx => by
    rcases h x hx with ⟨i, rfl⟩ | ⟨b, rfl⟩
    · exact sh_int i
    · exact sh_bool b
  rcases h with rfl | ⟨i, rfl⟩ | ⟨ds, rfl, h⟩ | ⟨ds, rfl, h⟩
  · exact sh_none.mono (by decide)
  · exact (sh_int i).mono (by decide)
  · exact sh_list (fl h)
  · exact sh_tuple (fl h)
section
variable {P : Program} {w : World} {K : PySem.W.Frag} {mg : Str → Option Value} {base : Heap} {C : Addr}
abbrev prIC (K : PySem.W.Frag) (C : Addr) : Pr := fun vs H P => ∃ v u1 u2 u3 k o1 o2 d, vs = [v, u1, u2, u3] ∧ KAt C k v H ∧ isL K (isI o1) u1 H ∧ isL K (isI o2) u2 H ∧ Okd k o1 ∧ Okd k o2 ∧ k.ok ∧ k.n ≤ 7 ∧ VDp K H u3 d ∧ P = Is (.bl (clB k o1 o2 d))
theorem sc34 : FnScope ["kind", "one", "other", "value", "low", "high", "item", "at"] ["kind", "one", "other", "value"] (defScope (top 34)) := ⟨rfl, rfl, rfl, by decide +kernel, rfl, by decide +kernel, by decide +kernel⟩
theorem df_ic (F : FnP K mg "is_climb" (top 34)) (B : Bl mg) (D1 : DF P w K mg base "check_two_orders" 6 ["kind", "one", "other"] (spOf (prC2 K C))) (D2 : DF P w K mg base "is_order_list" 2 ["kind", "value"] (spOf (prOL K C))) (D3 : DF P w K mg base "crossings_of" 3 ["kind", "order"] (spOf (prCrs K C))) (D4 : DF P w K mg base "is_below" 4 ["kind", "one", "other"] (spOf (prBel K C))) : DF P w K mg base "is_climb" 7 ["kind", "one", "other", "value"] (spOf (prIC K C)) := by
  refine df_mk F sc34 (fun vs H P ⟨v, u1, u2, u3, k, o1, o2, d, e, _⟩ => by rw [e]; rfl) (fun _ _ _ _ _ _ us hl => match us, hl with | [_, _, _, _], _ => rfl) ?_
  rintro f cdv A outer s H vs R E hr ⟨v, u1, u2, u3, k, o1, o2, d, rfl, hv, hu1, hu2, h1, h2, hk, hn7, hd, rfl⟩
  obtain ⟨hn, hr2⟩ := ok_n hk
  have hu64 := hr.units
  have hb60 := h2.2
  have hb61 := h1.2
  refine vs_expr (P := Is .non) (vn_call D1 hr (va3 (kv (i := 0) hv (lv 0)) (llv hu1 (lv 1)) (llv hu2 (lv 2)) stb_K stb_isL stb_isL) (by
    rintro _ H2 e2 ⟨x, y, z, rfl, hx, hy, hz⟩
    exact ⟨_, ⟨x, y, z, k, o1, o2, rfl, hx, hy, hz, h1, h2, hk, hn7, rfl⟩, fun u H3 e3 eu => eu⟩)) fun _ H1 e1 _ => ?_
  have hv1 := stb_K _ _ _ e1 hv
  have hu11 := stb_isL _ _ _ e1 hu1
  have hu21 := stb_isL _ _ _ e1 hu2
  have hd1 := hd.mono e1
  -- what is no list
  have other : ∀ {U : String}, TyX K H1 u3 (.type U) → kitB U "list" = some false → clB k o1 o2 d = false →
      VS (cx P w K mg base ["kind", "one", "other", "value", "low", "high", "item", "at"] "is_climb" (defScope (top 34)) f cdv A outer s H E) ((defBody (top 34)).drop 1) (en H (Is (.bl (clB k o1 o2 d)))) (L2.start ["kind", "one", "other", "value", "low", "high", "item", "at"] [v, u1, u2, u3]) H1 := fun {U} ty hkit ho =>
    vs_ifret (c := true) (P := Is (.bl (clB k o1 o2 d))) (VT.to (vw_or (c' := false) (vt_not (vt_val (ve_isi (T := "list") B.isi (lv 3) (ve_bty B.list (by decide +kernel)) ty hkit))) fun h => by cases h).t rfl) (fun _ => VE.to ve_bl (by rw [ho])) (fun _ v2 H2 e2 p => ⟨e1.trans e2, p⟩) fun h => by cases h
  cases hd1 with
  | non => exact other (.base .non) (by decide +kernel) (clB_no (by rintro ⟨vs, h, _⟩; cases h))
  | dic h => exact other (U := "dict") (.base (.dK h)) (by decide +kernel) (clB_no (by rintro ⟨vs, h, _⟩; cases h))
  | tup h => cases h with
    | tup hs ha => exact other (tyX_T hs) (by decide +kernel) (clB_no (by rintro ⟨vs, h, _⟩; cases h))
  | lst h hi hl =>
    rename_i ds
    cases h with
    | lst hs ha =>
    rename_i a xs
    obtain ⟨zs, rfl, rfl, hz⟩ := dpall_zip ha
    rw [List.length_map] at hl
    have ty := tyX_L hs
    have hval : ∀ {σ' H' pos}, Ex H1 H' → σ'[3]? = some (some (.ref a)) → VN (cx P w K mg base ["kind", "one", "other", "value", "low", "high", "item", "at"] "is_climb" (defScope (top 34)) f cdv A outer s H E) (.Name "value" pos) σ' H' (isL K (zs.map (·.1))) := fun {σ' H' pos} e h => llv (X := cx P w K mg base ["kind", "one", "other", "value", "low", "high", "item", "at"] "is_climb" (defScope (top 34)) f cdv A outer s H E) (⟨a, rfl, ex_l e hs⟩ : isL K (zs.map (·.1)) (.ref a) H') (lv 3 h)
    have hval2 : ∀ {σ' H' pos}, Ex H1 H' → σ'[3]? = some (some (.ref a)) → VN (cx P w K mg base ["kind", "one", "other", "value", "low", "high", "item", "at"] "is_climb" (defScope (top 34)) f cdv A outer s H E) (.Name "value" pos) σ' H' (isD K (.list (zs.map (·.2)))) := fun {σ' H' pos} e h => (hval e h).imp fun u H2 e2 ⟨q, eq, hq⟩ => by
      subst eq
      exact Dp.lst hq (dpall_of fun z hz' => Dp.mono (e.trans e2) (hz z hz'))
    refine vs_ifret (c := decide (zs.map (·.2) = []) || !decide ((zs.filter fun z => !ordB k z.2).map (·.2) = [])) (P := Is (.bl (clB k o1 o2 (.list (zs.map (·.2)))))) (VT.to (vw_or (c := !true) (c' := decide (zs.map (·.2) = []) || !decide ((zs.filter fun z => !ordB k z.2).map (·.2) = [])) (vt_not (vt_val (ve_isi (T := "list") B.isi (lv 3) (ve_bty B.list (by decide +kernel)) ty (by decide +kernel)))) fun _ => vw_or (vt_eq0 (N := 1) hu64 (hval2 (Ex.refl _) rfl) fun d hd => sh_it (hi d hd)) fun _ => vw_or1 (vt_ne0 (N := 1) hu64 ((vn_lcL (i := 6) (fun D j acc H' => acc = ((zs.take j).filter fun z => !ordB k z.2).map (·.1)) sc34.nd (hval (Ex.refl _) rfl) (by rw [List.length_map]; omega)
      (blkOk_by (own := [("item", 6)]) (N := ["kind", "one", "other", "value", "low", "high", "item", "at"]) (sc := defScope (top 34)) (by decide +kernel)) (fun _ _ _ _ _ => pg_name (i := 6) sc34.nd rfl (Or.inl rfl)) (fun _ => rfl) (fun _ _ _ _ => rfl) ?_).imp fun v' H' e' ⟨D, acc, e, _, hd', ha'⟩ => ?_) fun d hd => ?_)).t rfl) (fun hc => VE.to ve_bl ?_) (fun _ v2 H2 e2 p => ⟨e1.trans e2, p⟩) fun hc H2 e2 => ?_
    · intro D j x acc H' hD e hd' hj hR
      subst hR
      obtain ⟨hjl, ex⟩ := List.getElem?_eq_some_iff.mp hj
      rw [List.length_map] at hjl
      have ex : x = (zs[j]).1 := by rw [← ex, List.getElem_map]
      subst ex
      have hit := hz _ (List.getElem_mem hjl)
      refine ⟨!ordB k (zs[j]).2, Is (zs[j]).1, fun _ _ _ _ _ => vts_one (vt_not (vt_val (vn_call D2 (hr.mono (by decide)) (va2 (kv (i := 0) (stb_K _ _ _ e hv1) (lv 0)) (lv 6) stb_K stb_is) (by
        rintro _ H7 e7 ⟨x, y, rfl, hx, rfl⟩
        exact ⟨_, ⟨x, _, k, _, rfl, hx, Dp.mono (e.trans e7) hit, hi _ (List.mem_map_of_mem (List.getElem_mem hjl)), hk, hn7, rfl⟩, fun u H8 e8 eu => eu⟩)))), fun hc => ⟨fun _ _ _ _ _ => lv 6, fun v1 H7 _ ev => ?_⟩, fun hc H7 _ => ?_⟩
      · show _ = ((zs.take (j + 1)).filter fun z => !ordB k z.2).map (·.1)
        rw [show v1 = _ from ev, filter_take_succ _ _ _ hjl, if_pos hc, List.map_append]
        rfl
      · show _ = ((zs.take (j + 1)).filter fun z => !ordB k z.2).map (·.1)
        rw [filter_take_succ _ _ _ hjl, if_neg (by rw [hc]; decide), List.append_nil]
    · subst e ha'
      rw [List.length_map, List.take_length] at hd'
      exact Dp.lst (sq_of hd') (dpall_of fun z hz' => Dp.mono e' (hz z (List.mem_filter.mp hz').1))
    · obtain ⟨z, hz', rfl⟩ := List.mem_map.mp hd
      exact sh_it (hi _ (List.mem_map_of_mem (List.mem_filter.mp hz').1))
    · refine congrArg V.bl (clB_no ?_).symm
      rintro ⟨vs, e, hV, hcl⟩
      have e : zs.map (·.2) = vs.map dL := PyData.list.inj e
      rcases Bool.or_eq_true_iff.mp hc with q | q
      · rw [of_decide_eq_true q] at e
        cases vs with
        | nil => cases hcl.1
        | cons _ _ => cases e
      · have q : ¬ (zs.filter fun z => !ordB k z.2).map (·.2) = [] := fun z => by rw [decide_eq_true z] at q; cases q
        refine q ?_
        rw [List.map_eq_nil_iff, List.filter_eq_nil_iff]
        intro z hz'
        have : z.2 ∈ vs.map dL := by rw [← e]; exact List.mem_map_of_mem hz'
        obtain ⟨o, ho, eo⟩ := List.mem_map.mp this
        rw [← eo, ordB_iff.mpr ⟨o, rfl, hV o ho⟩]
        decide
    · obtain ⟨c1, c2⟩ := Bool.or_eq_false_iff.mp hc
      have c1 : ¬ zs.map (·.2) = [] := of_decide_eq_false c1
      have c2 : (zs.filter fun z => !ordB k z.2).map (·.2) = [] := by
        cases h : decide ((zs.filter fun z => !ordB k z.2).map (·.2) = []) with
        | true => exact of_decide_eq_true h
        | false => rw [h] at c2; cases c2
      rw [List.map_eq_nil_iff, List.filter_eq_nil_iff] at c2
      obtain ⟨os, eos, hV⟩ := all_ord (k := k) (ds := zs.map (·.2)) fun d hd => by
        obtain ⟨z, hz', rfl⟩ := List.mem_map.mp hd
        have := c2 z hz'
        cases h : ordB k z.2 with
        | true => rfl
        | false => rw [h] at this; exact absurd rfl this
      have hzl : zs.length = os.length := by have := congrArg List.length eos; simpa using this
      have hpos : 0 < os.length := by
        have : zs ≠ [] := fun z => c1 (by rw [z]; rfl)
        have := List.length_pos_iff.mpr this
        omega
      rw [eos]
      have hzo : ∀ i (hi' : i < os.length) {H'}, Ex H1 H' → isL K (isI os[i]) (zs[i]'(by omega)).1 H' := fun i hi' {H'} e => by
        have h := Dp.mono e (hz _ (List.getElem_mem (show i < zs.length by omega)))
        have : (zs[i]'(by omega)).2 = dL os[i] := by
          have q : (zs.map (·.2))[i]? = (os.map dL)[i]? := by rw [eos]
          rw [List.getElem?_map, List.getElem?_map, List.getElem?_eq_getElem (by omega), List.getElem?_eq_getElem hi'] at q
          exact Option.some.inj q
        rw [this] at h
        exact dp_il h
      have atz : ∀ i (hi' : i < os.length), atI (zs.map (·.1)) (i : Int) = some (zs[i]'(by omega)).1 := fun i hi' => by
        refine atI_nat ?_
        rw [List.getElem?_map, List.getElem?_eq_getElem (by omega)]; rfl
      have hne : os ≠ [] := List.length_pos_iff.mp hpos
      have e02 := e1.trans e2
      have hv2 := stb_K _ _ _ e2 hv1
      have hu12 := stb_isL _ _ _ e2 hu11
      have hu22 := stb_isL _ _ _ e2 hu21
      have cl0 : ∀ {x : Bool}, (clB k o1 o2 (dLL os) = true ↔ x = true) → V.bl x = V.bl (clB k o1 o2 (dLL os)) := fun {x} h => by
        congr 1
        rw [Bool.eq_iff_iff]
        exact h.symm
      have clI : clB k o1 o2 (dLL os) = true ↔ IsClimb k o1 o2 os := by
        rw [clB_iff]
        constructor
        · rintro ⟨vs, e, _, h⟩
          rw [dLL_inj e]; exact h
        · exact fun h => ⟨os, rfl, hV, h⟩
      have hd0 : os.head? = some (os[0]) := by rw [List.head?_eq_getElem?, List.getElem?_eq_getElem hpos]
      have hdl : os.getLast? = some (os[os.length - 1]) := by rw [List.getLast?_eq_getElem?, List.getElem?_eq_getElem (by omega)]
      -- the ends
      have atl : atI (zs.map (·.1)) (-1) = some (zs[os.length - 1]'(by omega)).1 := by
        have hzne : zs ≠ [] := fun z => c1 (by rw [z]; rfl)
        have e : zs.map (·.1) = (zs.map (·.1)).take (os.length - 1) ++ [(zs[os.length - 1]'(by omega)).1] := by
          have h1 : (zs.map (·.1)).drop (os.length - 1) = [(zs[os.length - 1]'(by omega)).1] := by
            rw [List.drop_eq_getElem_cons (by rw [List.length_map]; omega), List.getElem_map, List.drop_eq_nil_of_le (by rw [List.length_map]; omega)]
          rw [← h1, List.take_append_drop]
        rw [e]
        exact atI_last _ _
      refine vs_ifret (c := !decide (os[0] = o1) || !decide (os[os.length - 1] = o2)) (P := Is (.bl (clB k o1 o2 (dLL os)))) (vw_or (vt_neL hu64 ((ve_ixL (hval e2 rfl) ve_int (atz 0 hpos)).imp fun v3 H3 e3 ev => ?_) (llv hu12 (lv 1))) fun _ => vw_or1 (vt_neL hu64 ((ve_ixL (hval e2 rfl) (ve_neg ve_int) atl).imp fun v3 H3 e3 ev => ?_) (llv hu22 (lv 2)))).t (fun hc2 => VE.to ve_bl (cl0 ?_)) (fun _ v3 H3 e3 p => ⟨e02.trans e3, p⟩) fun hc2 H3 e3 => ?_
      · rw [show v3 = _ from ev]; exact hzo 0 hpos (e2.trans e3)
      · rw [show v3 = _ from ev]; exact hzo _ (by omega) (e2.trans e3)
      · rw [clI]
        refine ⟨fun ⟨g1, g2, _⟩ => ?_, fun h => by cases h⟩
        rw [hd0] at g1
        rw [hdl] at g2
        rw [Option.some.inj g1, Option.some.inj g2] at hc2
        simp at hc2
      · have q1 : os[0] = o1 := by
          refine Decidable.byContradiction fun z => ?_
          rw [decide_eq_false z] at hc2
          cases hc2
        have q2 : os[os.length - 1] = o2 := by
          refine Decidable.byContradiction fun z => ?_
          rw [decide_eq_false z, Bool.or_eq_false_iff] at hc2
          cases hc2.2
        have g1 : os.head? = some o1 := by rw [hd0, q1]
        have g2 : os.getLast? = some o2 := by rw [hdl, q2]
        have e13 := e2.trans e3
        have hv3 := stb_K _ _ _ e13 hv1
        have hu13 := stb_isL _ _ _ e13 hu11
        have hu23 := stb_isL _ _ _ e13 hu21
        refine vs_par (i := 4) (j := 5) (P1 := Is (.int (crs k o1 : Nat))) (P2 := Is (.int (crs k o2 : Nat))) sc34.nd (vn_call D3 (hr.mono (by decide)) (va2 (kv (i := 0) hv3 (lv 0)) (llv hu13 (lv 1)) stb_K stb_isL) (by
          rintro _ H4 e4 ⟨x, y, rfl, hx, hy⟩
          exact ⟨_, ⟨x, y, k, o1, rfl, hx, hy, VL.len h1.1, hn, hn7, rfl⟩, fun u H5 e5 eu => eu⟩)) (vn_call D3 (hr.mono (by decide)) (va2 (kv (i := 0) hv3 (lv 0)) (llv hu23 (lv 2)) stb_K stb_isL) (by
          rintro _ H4 e4 ⟨x, y, rfl, hx, hy⟩
          exact ⟨_, ⟨x, y, k, o2, rfl, hx, hy, VL.len h2.1, hn, hn7, rfl⟩, fun u H5 e5 eu => eu⟩)) stb_is stb_is fun _ _ H4 e4 ev4 ew4 => ?_
        cases ev4
        cases ew4
        have e14 := e13.trans e4
        have hv4 := stb_K _ _ _ e14 hv1
        refine vs_ifret (c := !decide (os.map (fun v => (crs k v : Int)) = irange (crs k o1) ((crs k o2 : Int) + 1 - (crs k o1 : Int)).toNat)) (P := Is (.bl (clB k o1 o2 (dLL os)))) (vt_neL hu64 ((vn_lcL (i := 6) (fun D j acc H' => acc = isI ((os.take j).map fun v => (crs k v : Int))) sc34.nd (hval e14 rfl) (by rw [List.length_map]; omega)
          (blkOk_by (own := [("item", 6)]) (N := ["kind", "one", "other", "value", "low", "high", "item", "at"]) (sc := defScope (top 34)) (by decide +kernel)) (fun _ _ _ _ _ => pg_name (i := 6) sc34.nd rfl (Or.inl rfl)) (fun _ => rfl) (fun _ _ _ _ => rfl) ?_).imp fun v' H' e' ⟨D, acc, e, _, hd', ha'⟩ => ?_) ((vn_listR B.list B.range (lv 4) (ve_add (lv 5) ve_int) (by omega)).imp fun _ _ _ h => h.l)) (fun hc3 => VE.to ve_bl (cl0 ?_)) (fun _ v5 H5 e5 p => ⟨(e1.trans e14).trans e5, p⟩) fun hc3 H5 e5 => ?_
        · intro D j x acc H' hD e hd' hj hR
          subst hR
          obtain ⟨hjl, ex⟩ := List.getElem?_eq_some_iff.mp hj
          rw [List.length_map] at hjl
          have ex : x = (zs[j]).1 := by rw [← ex, List.getElem_map]
          subst ex
          have hjo : j < os.length := by omega
          refine ⟨true, Is (.int (crs k os[j] : Nat)), fun _ _ _ _ _ => vts_nil, fun _ => ⟨fun _ _ _ _ _ => vn_call D3 (hr.mono (by decide)) (va2 (kv (i := 0) (stb_K _ _ _ e hv4) (lv 0)) (llv (hzo j hjo (e14.trans e)) (lv 6)) stb_K stb_isL) (by
            rintro _ H7 e7 ⟨x, y, rfl, hx, hy⟩
            exact ⟨_, ⟨x, y, k, _, rfl, hx, hy, VL.len (hV _ (List.getElem_mem hjo)), hn, hn7, rfl⟩, fun u H8 e8 eu => eu⟩), fun v1 H7 _ ev => ?_⟩, fun h => by cases h⟩
          show _ = isI ((os.take (j + 1)).map fun v => (crs k v : Int))
          rw [show v1 = _ from ev, List.take_succ, List.getElem?_eq_getElem hjo, List.map_append, isI, isI, List.map_append]
          rfl
        · subst e ha'
          rw [List.length_map, hzl, List.take_length] at hd'
          exact ⟨D, rfl, sq_of hd'⟩
        · rw [clI]
          refine ⟨fun hcl => ?_, fun h => by cases h⟩
          have hr' : rises k o1 o2 os := (prog_iff hk hV g1 g2).mpr hcl.2.2 |>.1
          unfold rises at hr'
          rw [hr', show ((crs k o2 : Int) + 1 - (crs k o1 : Int)).toNat = crs k o2 + 1 - crs k o1 by omega] at hc3
          simp at hc3
        · have hrs : rises k o1 o2 os := by
            unfold rises
            refine Decidable.byContradiction fun z => ?_
            rw [show ((crs k o2 : Int) + 1 - (crs k o1 : Int)).toNat = crs k o2 + 1 - crs k o1 by omega, decide_eq_false z] at hc3
            cases hc3
          have e15 := e14.trans e5
          have hv5 := stb_K _ _ _ e15 hv1
          refine vs_ret (P := Is (.bl (clB k o1 o2 (dLL os)))) (VE.to (ve_eq0 (ds := ((List.range (os.length - 1)).filter fun j => !(if h : j + 1 < os.length then bel k (os[j]) (os[j + 1]) else true)).map fun (j : Nat) => PyData.int (1 + (j : Int))) (N := 0) hu64 ((vn_lcR2 (i := 7) (fun D j acc H' => acc = ((List.range j).filter fun j => !(if h : j + 1 < os.length then bel k (os[j]) (os[j + 1]) else true)).map fun (j : Nat) => V.int (1 + (j : Int))) sc34.nd B.range ve_int (ve_len B.len (hval e15 rfl)) (by rw [List.length_map]; omega)
            (blkOk_by (own := [("at", 7)]) (N := ["kind", "one", "other", "value", "low", "high", "item", "at"]) (sc := defScope (top 34)) (by decide +kernel)) (fun _ _ _ _ _ => pg_name (i := 7) sc34.nd rfl (Or.inl rfl)) (fun _ => rfl) (fun _ _ _ _ => rfl) ?_).imp fun v' H' e' ⟨D, acc, e, _, hd', ha'⟩ => ?_) fun d hd => ?_) (cl0 ?_)) fun v6 H6 e6 p => ⟨(e1.trans e15).trans e6, p⟩
          · intro D j acc H' hD e hd' hj hR
            subst hR
            rw [List.length_map] at hj
            have hjo : j + 1 < os.length := by omega
            have a1 : atI (zs.map (·.1)) (1 + (j : Int) - 1) = some (zs[j]'(by omega)).1 := by
              rw [show (1 + (j : Int) - 1) = (j : Int) by omega]; exact atz j (by omega)
            have a2 : atI (zs.map (·.1)) (1 + (j : Int)) = some (zs[j + 1]'(by omega)).1 := by
              rw [show (1 + (j : Int)) = ((j + 1 : Nat) : Int) by omega]; exact atz (j + 1) hjo
            have hva : isL K (zs.map (·.1)) (.ref a) H' := ⟨a, rfl, ex_l (e15.trans e) hs⟩
            refine ⟨!bel k (os[j]) (os[j + 1]), Is (.int (1 + (j : Int))), fun _ _ _ _ _ => vts_one (vt_not (vt_val (vn_call D4 (hr.mono (by decide)) (va3 (P2 := isL K (isI os[j])) (P3 := isL K (isI os[j + 1])) (kv (i := 0) (stb_K _ _ _ e hv5) (lv 0)) ((ve_ixL (llv hva (lv 3)) (ve_sub (lv 7) ve_int) a1).imp fun v7 H7 e7 ev => ?_) ((ve_ixL (llv hva (lv 3)) (lv 7) a2).imp fun v7 H7 e7 ev => ?_) stb_K stb_isL stb_isL) (by
              rintro _ H7 e7 ⟨x, y, z, rfl, hx, hy, hz'⟩
              exact ⟨_, ⟨x, y, z, k, _, _, rfl, hx, hy, hz', VL.len (hV _ (List.getElem_mem _)), hV _ (List.getElem_mem _), hk, hn7, rfl⟩, fun u H8 e8 eu => eu⟩)))), fun hc => ⟨fun _ _ _ _ _ => lv 7, fun v1 H7 _ ev => ?_⟩, fun hc H7 _ => ?_⟩
            · rw [show v7 = _ from ev]; exact hzo j (by omega) ((e15.trans e).trans e7)
            · rw [show v7 = _ from ev]; exact hzo (j + 1) hjo ((e15.trans e).trans e7)
            · rw [show v1 = _ from ev, List.range_succ, List.filter_append, List.map_append]
              simp [hjo, hc]
            · rw [List.range_succ, List.filter_append, List.map_append]
              simp [hjo, hc]
          · obtain ⟨j, _, rfl⟩ := List.mem_map.mp hd
            exact sh_int _
          · rw [clI, decide_eq_true_iff, List.map_eq_nil_iff, List.filter_eq_nil_iff]
            have pi := prog_iff hk hV g1 g2
            constructor
            · rintro ⟨_, _, hup⟩ j hj
              rw [List.mem_range] at hj
              have := (pi.mpr hup).2 j (by omega)
              rw [dif_pos (by omega), this]
              decide
            · intro h
              refine ⟨g1, g2, pi.mp ⟨hrs, fun i hi' => ?_⟩⟩
              have := h i (by rw [List.mem_range]; omega)
              rw [dif_pos hi'] at this
              cases q : bel k os[i] os[i + 1] with
              | true => rfl
              | false => rw [q] at this; exact absurd rfl this
          · subst e ha'
            have e0 : (((zs.map (·.1)).length : Int) - 1).toNat = os.length - 1 := by rw [List.length_map]; omega
            rw [e0] at hd'
            refine Dp.lst (sq_of hd') ?_
            have : ∀ l : List Nat, DpAll K H' (l.map fun (j : Nat) => V.int (1 + (j : Int))) (l.map fun (j : Nat) => PyData.int (1 + (j : Int))) := by
              intro l
              induction l with
              | nil => exact .nil
              | cons x l ih => exact .cons (.int _) ih
            exact this _
end
end W47
namespace W47
open PySem PySem.Spec PyProof.Rows L2 Evl C47
/-! ### keyword calls, all by name, in the order against the parameters' -/
structure DFK (P : Program) (w : World) (K : PySem.W.Frag) (mg : Str → Option Value) (base : Heap) (n : Str) (k : Nat) (ps : List Str) (sp : Sp) : Prop where
  ex : ∃ f fd, mg n = some (.ref f) ∧ PySem.W.keepIn K (.ref f) = true ∧ (∀ (s : Shared) (ws : List Value), ws.length = ps.length → BindsTo s fd ⟨[], ps.reverse.zip ws⟩ (ps.zip ws.reverse)) ∧ FnOk P w K mg base CX0 k f fd ps sp
theorem dfk_of {P : Program} {w : World} {K : PySem.W.Frag} {mg : Str → Option Value} {base : Heap} {n : Str} {st : Stmt} {ps : List Str} {k : Nat} {sp : Sp} (F : FnP K mg n st) (D : DF P w K mg base n k ps sp)
    (hb : ∀ (kV doc pm : Value) (an : Option Addr) (cdv ct : Value) (ws : List Value), ws.length = ps.length → bindArgs (PySem.W.fnOf n n (defArgs st) (defBody st) (defScope st) .none kV doc pm an cdv ct) ⟨[], ps.reverse.zip ws⟩ = pure (ps.zip ws.reverse)) : DFK P w K mg base n k ps sp := by
  obtain ⟨f, fd, hm, hf⟩ := F.ex
  obtain ⟨f', fd', hm', kp, bi, ok, oc', od', osl', lk'⟩ := D.ex
  have ef : f' = f := by
    have e := hm'.symm.trans hm
    cases e
    rfl
  subst ef
  obtain ⟨oc, od, dV, kV, doc, pm, an, cdv, ct, osl, e, lk, hcd, hD, hK⟩ := hf.ex
  have efd : fd' = fd := by
    have := lk'.symm.trans lk
    cases this
    rfl
  subst efd
  have hdV : dV = .none := by
    rcases hD with ⟨_, z⟩ | ⟨z, _⟩
    · exact z
    · exact absurd rfl z
  subst hdV
  refine ⟨f', fd', hm, kp, fun s ws hl => ?_, ok⟩
  rw [e]
  exact BindsTo.of_looks fun M => PySem.W.Looks.of_pure (hb kV doc pm an cdv ct ws hl)
section
variable {X : Cx} {σ : L2.St} {H H' : Hp} {a b o e : Expr} {es : List Expr} {kws : List Keyword} {P P' Pa Pb : PV} {pos p apos : Pos} {n : Str} {k : Nat} {ps : List Str} {sp : Sp} {pr : Pr} {tk : TA} {x y v : V} {st : Stmt} {rest body : List Stmt} {D : Ends}
theorem pe_callK0 {f : Addr} {fd : FuncData} {CX : CXT} {E : XK} (F : FnOk X.prog X.w X.K X.mg X.base CX k f fd ps sp) (hr : Room k X.A) (hg : Gl X n) (hm : X.mg n = some (.ref f)) (hk : PySem.W.keepIn X.K (.ref f) = true) (hb : ∀ (s : Shared) (ws : List Value), ws.length = ps.length → BindsTo s fd ⟨[], ps.reverse.zip ws⟩ (ps.zip ws.reverse)) (hx : Passes CX X E)
    (hkw : PK X kws tk) (hall : (backToKw pos (keywordEach kws X.env)).all (·.1.isSome) = true := by rfl) (hks : (backToKw pos (keywordEach kws X.env)).filterMap (·.1) = ps.reverse := by rfl)
    (hdb : (n == ("__debug__" : Str)) = false := by decide) (hpl : ((backTo pos (starEach [] X.env)).any (·.1) || (backToKw pos (keywordEach kws X.env)).any (·.1.isNone)) = false := by rfl) :
    PE X (.Call (.Name n p) [] kws pos) (fun σ H Q => tk σ H fun zs H2 => sp zs.reverse H2 Q E) := by
  refine ⟨fun pins s σ H Q I h => ?_⟩
  refine wpAny_Call_Name_kw (ld_glob I hg hm ?_ hdb)
  refine PySem.W.callWith_KW0 (h₀ := X.base) I.ok.mod.kin hk hall (thn (hkw.run pos pins s σ H _ I h) fun ws s2 ⟨zs, H2, I2, rz, q2⟩ => ⟨I2.kIn, ?_⟩) hpl
  rw [hks]
  have hl := F.len _ _ _ _ q2
  rw [List.length_reverse] at hl
  have hlw : ws.length = ps.length := by rw [← rz.length]; exact hl
  refine wpAny_call (codeAny_mono (F.run X.A X.stack s2 H2 ⟨[], ps.reverse.zip ws⟩ ws.reverse zs.reverse Q E hr I2.env0 (hb s2 ws hlw) (paired_reverse rz) q2) fun r s' hq => ?_)
  cases r with
  | error e => exact hx pins σ H2 s2 e s' I2 hq
  | ok fl =>
    cases fl with
    | ret u => exact I2.after hq
    | next => exact False.elim hq
    | brk => exact False.elim hq
    | cont => exact False.elim hq
/-- f(k3 = c, k2 = b, k1 = a) -/
theorem vn_callK3 {e1 e2 e3 : Expr} {n1 n2 n3 : Option Str} {q1 q2 q3 : Pos} {P1 P2 P3 : PV} (F : DFK X.prog X.w X.K X.mg X.base n k ps (spOf pr)) (hr : Room k X.A) (h1 : VN X e1 σ H P1) (h2 : VN X e2 σ H P2) (h3 : VN X e3 σ H P3) (s1 : Stb P1) (s2 : Stb P2)
    (h : ∀ v1 v2 v3 H1, Ex H H1 → P1 v1 H1 → P2 v2 H1 → P3 v3 H1 → ∃ R, pr [v3, v2, v1] H1 R ∧ ∀ v H2, Ex H1 H2 → R v H2 → P v H2) (hg : Gl X n := by rfl)
    (hall : (backToKw pos (keywordEach [⟨n1, e1, q1⟩, ⟨n2, e2, q2⟩, ⟨n3, e3, q3⟩] X.env)).all (·.1.isSome) = true := by rfl) (hks : (backToKw pos (keywordEach [⟨n1, e1, q1⟩, ⟨n2, e2, q2⟩, ⟨n3, e3, q3⟩] X.env)).filterMap (·.1) = ps.reverse := by rfl)
    (hdb : (n == ("__debug__" : Str)) = false := by decide) (hpl : ((backTo pos (starEach [] X.env)).any (·.1) || (backToKw pos (keywordEach [⟨n1, e1, q1⟩, ⟨n2, e2, q2⟩, ⟨n3, e3, q3⟩] X.env)).any (·.1.isNone)) = false := by rfl) :
    VN X (.Call (.Name n p) [] [⟨n1, e1, q1⟩, ⟨n2, e2, q2⟩, ⟨n3, e3, q3⟩] pos) σ H P := by
  obtain ⟨f, fd, hm, kp, hb, ok⟩ := F.ex
  refine vn_by (pe_callK0 ok hr hg hm kp hb pass0 (pk_cons pe_any (pk_cons pe_any (pk_cons pe_any pk_nil))) hall hks hdb hpl) fun H1 e1 Q q => h1 H1 e1 _ fun v1 H2 e2 p1 => h2 H2 (e1.trans e2) _ fun v2 H3 e3 p2 => h3 H3 ((e1.trans e2).trans e3) _ fun v3 H4 e4 p3 => ?_
  obtain ⟨R, g1, g2⟩ := h v1 v2 v3 H4 (((e1.trans e2).trans e3).trans e4) (s1 _ _ _ (e3.trans e4) p1) (s2 _ _ _ e4 p2) p3
  exact ⟨R, g1, fun v H5 e5 r => q v H5 (((e2.trans e3).trans e4).trans e5) (g2 v H5 e5 r)⟩
theorem vn_callK4 {e1 e2 e3 e4 : Expr} {n1 n2 n3 n4 : Option Str} {q1 q2 q3 q4 : Pos} {P1 P2 P3 P4 : PV} (F : DFK X.prog X.w X.K X.mg X.base n k ps (spOf pr)) (hr : Room k X.A) (h1 : VN X e1 σ H P1) (h2 : VN X e2 σ H P2) (h3 : VN X e3 σ H P3) (h4 : VN X e4 σ H P4) (s1 : Stb P1) (s2 : Stb P2) (s3 : Stb P3)
    (h : ∀ v1 v2 v3 v4 H1, Ex H H1 → P1 v1 H1 → P2 v2 H1 → P3 v3 H1 → P4 v4 H1 → ∃ R, pr [v4, v3, v2, v1] H1 R ∧ ∀ v H2, Ex H1 H2 → R v H2 → P v H2) (hg : Gl X n := by rfl)
    (hall : (backToKw pos (keywordEach [⟨n1, e1, q1⟩, ⟨n2, e2, q2⟩, ⟨n3, e3, q3⟩, ⟨n4, e4, q4⟩] X.env)).all (·.1.isSome) = true := by rfl) (hks : (backToKw pos (keywordEach [⟨n1, e1, q1⟩, ⟨n2, e2, q2⟩, ⟨n3, e3, q3⟩, ⟨n4, e4, q4⟩] X.env)).filterMap (·.1) = ps.reverse := by rfl)
    (hdb : (n == ("__debug__" : Str)) = false := by decide) (hpl : ((backTo pos (starEach [] X.env)).any (·.1) || (backToKw pos (keywordEach [⟨n1, e1, q1⟩, ⟨n2, e2, q2⟩, ⟨n3, e3, q3⟩, ⟨n4, e4, q4⟩] X.env)).any (·.1.isNone)) = false := by rfl) :
    VN X (.Call (.Name n p) [] [⟨n1, e1, q1⟩, ⟨n2, e2, q2⟩, ⟨n3, e3, q3⟩, ⟨n4, e4, q4⟩] pos) σ H P := by
  obtain ⟨f, fd, hm, kp, hb, ok⟩ := F.ex
  refine vn_by (pe_callK0 ok hr hg hm kp hb pass0 (pk_cons pe_any (pk_cons pe_any (pk_cons pe_any (pk_cons pe_any pk_nil)))) hall hks hdb hpl) fun H1 e1 Q q => h1 H1 e1 _ fun v1 H2 e2 p1 => h2 H2 (e1.trans e2) _ fun v2 H3 e3 p2 => h3 H3 ((e1.trans e2).trans e3) _ fun v3 H4 e4 p3 => h4 H4 (((e1.trans e2).trans e3).trans e4) _ fun v4 H5 e5 p4 => ?_
  have e15 := (((e1.trans e2).trans e3).trans e4).trans e5
  obtain ⟨R, g1, g2⟩ := h v1 v2 v3 v4 H5 e15 (s1 _ _ _ ((e3.trans e4).trans e5) p1) (s2 _ _ _ (e4.trans e5) p2) (s3 _ _ _ e5 p3) p4
  exact ⟨R, g1, fun v H6 e6 r => q v H6 ((((e2.trans e3).trans e4).trans e5).trans e6) (g2 v H6 e6 r)⟩
/-! ### is True, is False, max, **, {}, tuple(xs), [x] * n, not in -/
theorem ve_isB {c d : Bool} (ha : VE X a σ H (.bl c)) (hb : VE X b σ H (.bl d)) : VE X (.Compare a [.Is] [b] pos) σ H (.bl (decide (c = d))) := vn_cmp op_isBl ha hb stb_is (fun _ _ H1 _ hx hy Q q => ⟨c, d, hx, hy, q _ H1 (Ex.refl H1) rfl⟩) (nomark _)
theorem vt_notB {c d : Bool} (ha : VE X a σ H (.bl c)) (hb : VE X b σ H (.bl d)) : VT X (.Compare a [.IsNot] [b] pos) σ H (!decide (c = d)) := vt_cmp op_notBl ha hb stb_is (fun _ _ H1 _ hx hy Q q => ⟨c, d, hx, hy, q _ H1 (Ex.refl H1) rfl⟩) (nomark _)
theorem ve_max2 {i j : Int} (hm : X.mg "max" = none) (ha : VE X a σ H (.int i)) (hb : VE X b σ H (.int j)) (hc : X.calm = true := by rfl) (hg : Gl X "max" := by rfl) (hs : starEach [a, b] X.env = (false, eval a X.env) :: starEach [b] X.env := by rfl) (hs2 : starEach [b] X.env = (false, eval b X.env) :: starEach [] X.env := by rfl) (hpl : (backTo pos (starEach [b] X.env)).any (·.1) = false := by rfl) :
    VE X (.Call (.Name "max" p) [a, b] [] pos) σ H (.int (if j > i then j else i)) :=
  vn_callB (call_max2 hc) hm (by decide +kernel) (va2 ha hb stb_is stb_is hs hs2) (fun vs H1 e1 ⟨v, w, e, ev, ew⟩ Q q => ⟨i, j, by rw [e, show v = _ from ev, show w = _ from ew], q _ H1 (Ex.refl H1) rfl⟩) hg (by decide) (by decide) hs hpl
theorem op_powX : OpR X (binaryOp .Pow) (rI (fun i j => 0 ≤ j ∧ (Builtin.Int.intBits i : Int) * j ≤ 2 ^ 27) fun i j => .int (i ^ j.toNat)) := opI fun _ _ _ _ _ _ _ hc q => pow_int hc.1 hc.2 q
theorem ve_pow {i j : Int} (hc : 0 ≤ j ∧ (Builtin.Int.intBits i : Int) * j ≤ 2 ^ 27) (ha : VE X a σ H (.int i)) (hb : VE X b σ H (.int j)) : VE X (.BinOp a .Pow b pos) σ H (.int (i ^ j.toNat)) := vn_op op_powX ha hb stb_is fun _ _ _ _ hx hy => rr_I hc hx hy
theorem ve_divN {i j : Int} (hc : 0 < j ∧ j.natAbs.log2 < 9000) (ha : VE X a σ H (.int i)) (hb : VE X b σ H (.int j)) : VE X (.BinOp a .FloorDiv b pos) σ H (.int (i / j)) := vn_op op_fdivW ha hb stb_is fun _ _ _ _ hx hy => rr_I hc hx hy
theorem ve_bits {i : Int} (ha : VE X o σ H (.int i)) (hbase : attributeBase o "bit_length" X.env (eval o X.env) = eval o X.env := by rfl) (hline : (apos.endLine == pos.line) = true := by rfl) : VE X (.Call (.Attribute o "bit_length" apos) [] [] pos) σ H (.int (Builtin.Int.intBits i : Nat)) :=
  vn_by (pe_bits pe_any hbase hline) fun H1 e1 Q q => ha H1 e1 _ fun v H2 e2 ev => ⟨i, ev, q _ H2 e2 rfl⟩
theorem vn_dic : VN X (.Dict [] [] pos) σ H fun v H' => ∃ q, v = .ref q ∧ H q = none ∧ H' q = some (.dK []) :=
  vn_by pe_dnewK fun H1 e1 Q q l hl => q _ _ (Ex.new hl) ⟨l, rfl, fresh_back e1 hl, upd_same⟩
/-- max(xs), min(xs) -/
def lmax : List Int → Int
  | [] => 0
  | x :: l => l.foldl max x
theorem ve_maxL {ns : List Int} {m : Int} (hm : X.mg "max" = none) (ha : VN X a σ H (isL X.K (isI ns))) (h1 : m ∈ ns) (h2 : ∀ y ∈ ns, y ≤ m) (hc : X.calm = true := by rfl) (hg : Gl X "max" := by rfl) (hs : starEach [a] X.env = (false, eval a X.env) :: starEach [] X.env := by rfl) (hpl : (backTo pos (starEach [] X.env)).any (·.1) = false := by rfl) :
    VE X (.Call (.Name "max" p) [a] [] pos) σ H (.int m) :=
  vn_callB (cr_max hc) hm (by decide +kernel) (va1 ha stb_isL hs) (fun vs H1 e1 ⟨v, e, q, ev, hq⟩ Q k => ⟨q, ns, by rw [e, ev], hq, List.length_pos_of_mem h1, fun m' g1 g2 => k _ H1 (Ex.refl H1) (by rw [show m' = m from Int.le_antisymm (h2 _ g1) (g2 _ h1)])⟩) hg (by decide) (by decide) hs hpl
theorem ve_minL {ns : List Int} {m : Int} (hm : X.mg "min" = none) (ha : VN X a σ H (isL X.K (isI ns))) (h1 : m ∈ ns) (h2 : ∀ y ∈ ns, m ≤ y) (hc : X.calm = true := by rfl) (hg : Gl X "min" := by rfl) (hs : starEach [a] X.env = (false, eval a X.env) :: starEach [] X.env := by rfl) (hpl : (backTo pos (starEach [] X.env)).any (·.1) = false := by rfl) :
    VE X (.Call (.Name "min" p) [a] [] pos) σ H (.int m) :=
  vn_callB (cr_min hc) hm (by decide +kernel) (va1 ha stb_isL hs) (fun vs H1 e1 ⟨v, e, q, ev, hq⟩ Q k => ⟨q, ns, by rw [e, ev], hq, List.length_pos_of_mem h1, fun m' g1 g2 => k _ H1 (Ex.refl H1) (by rw [show m' = m from Int.le_antisymm (g2 _ h1) (h2 _ g1)])⟩) hg (by decide) (by decide) hs hpl
/-- [x] * n -/
theorem vn_rep {xs : List V} {m : Nat} (ha : VN X a σ H (trkL xs)) (hb : VE X b σ H (.int (m : Int))) (hl : m ≤ 1000 ∧ xs.length ≤ 1000) : VN X (.BinOp a .Mult b pos) σ H (newL H (List.replicate m xs).flatten) :=
  vn_op op_rep ha hb stb_trk fun x y H1 e1 ⟨q, ex, hq⟩ ey Q k => ⟨q, (m : Int), xs, ex, ey, hq, by omega, by omega, by
    rw [Int.toNat_natCast, sizeLine_eq]
    have : xs.length * m ≤ 1000 * 1000 := Nat.mul_le_mul hl.2 hl.1
    omega, fun l hl => k _ _ (Ex.new hl) ⟨l, rfl, fresh_back e1 hl, by rw [upd_same, Int.toNat_natCast]⟩⟩
/-- d not in ds -/
theorem vt_notIn {d : PyData} {ds : List PyData} (hu : X.A.units + 65 < cLine) (ha : VN X a σ H (isD X.K d)) (hb : VN X b σ H (isD X.K (.list ds))) (s1 : SeqAt.shaped d = true) (s2 : SeqAt.shaped (.list ds) = true) (hm : behindInMarks .NotIn b = false := by rfl) : VT X (.Compare a [.NotIn] [b] pos) σ H (!ds.any fun z => PyData.eqv z d) :=
  vt_cmp (op_notInD hu) ha hb stb_isD (fun _ _ H1 _ hx hy Q q => ⟨d, ds, hx, hy, s1, s2, q _ H1 (Ex.refl H1) rfl⟩) hm
end
end W47
namespace W47
open PySem PySem.Spec PyProof.Rows L2 Evl C47
/-! ### repr -/
mutual
theorem dp_nodict {K : PySem.W.Frag} {H : Hp} : ∀ {v : V} {d : PyData}, Dp K H v d → d.hasDict = false
  | _, _, .non => by simp [PyData.hasDict]
  | _, _, .bl b => by simp [PyData.hasDict]
  | _, _, .int i => by simp [PyData.hasDict]
  | _, _, .str x => by simp [PyData.hasDict]
  | _, _, .lst h a => by simp [PyData.hasDict, dpall_nodict a]
  | _, _, .tup h a => by simp [PyData.hasDict, dpall_nodict a]
theorem dpall_nodict {K : PySem.W.Frag} {H : Hp} : ∀ {vs : List V} {ds : List PyData}, DpAll K H vs ds → PyData.hasDictAll ds = false
  | _, _, .nil => by simp [PyData.hasDictAll]
  | _, _, .cons h a => by simp [PyData.hasDictAll, dp_nodict h, dpall_nodict a]
end
/-- how a value may be shown -/
def Shw (d : PyData) : Prop := d.showable = true ∧ d.shown.length ≤ sizeLine ∧ d.depth ≤ 60
def rRepr (K : PySem.W.Frag) : List V → Hp → VK → Prop := fun xs H Q => ∃ v d, xs = [v] ∧ VDp K H v d ∧ Shw d ∧ Q (.str d.shown) H
theorem call_reprD {X : Cx} (hg : X.A.guards = some []) (hu : X.A.units + 64 < cLine) : CallR X (.builtin "repr") (rRepr X.K) := by
  intro pins s σ H xs us Q I r h
  obtain ⟨v, d, rfl, hd, ⟨hs, hz, hdp⟩, q⟩ := h
  obtain ⟨u, rfl, ru⟩ := vals1 r
  have nd : ∀ {as : List Addr}, d.hasDict = false → (d.hasDict = true → sysModules ∉ as) := fun h h' => by rw [h] at h'; cases h'
  cases hd with
  | non =>
    cases (show u = Value.none from ru)
    exact PySem.P.repr_of_none ⟨.str _, H, I.tok _, ⟨_, rfl⟩, by simpa [PyData.shown] using q⟩
  | dic h =>
    rename_i a
    cases (show u = Value.ref a from ru)
    obtain ⟨_, hsys, vs, kv, o, es, ep, ho, hex, hda, _, hp, _⟩ := I.hok a _ h
    cases kv
    have he : es.toList = [] := by
      cases he : es.toList with
      | nil => rfl
      | cons x l => rw [he] at hp; cases hp
    have hr : Reads s.heap (.ref a) (.dict []) (a :: [] ++ []) := Reads.dict ho hex.1 hda (by rw [he]; exact .nil) (by rw [he]; exact .nil)
    refine repr_of_reads' hr hs (fun _ => ?_) hg (by omega) (fun _ _ e => e) (fun h' u tk k => ⟨.str _, H, I.kept k, ⟨_, rfl⟩, q⟩) hz
    intro hm
    simp at hm
    rw [← hm] at hsys
    simp at hsys
  | lst h hi hl =>
    obtain ⟨as, hr⟩ := Dp.reads I _ _ _ h ru
    have hnd := dp_nodict h
    cases h with
    | lst hs' ha =>
      cases (show u = Value.ref _ from ru)
      exact repr_of_reads' hr hs (nd hnd) hg (by omega) (fun _ _ e => e) (fun h' u tk k => ⟨.str _, H, I.kept k, ⟨_, rfl⟩, q⟩) hz
  | tup h =>
    obtain ⟨as, hr⟩ := Dp.reads I _ _ _ h ru
    have hnd := dp_nodict h
    cases h with
    | tup hs' ha =>
      cases (show u = Value.ref _ from ru)
      exact repr_of_reads' hr hs (nd hnd) hg (by omega) (fun _ _ e => e) (fun h' u tk k => ⟨.str _, H, I.kept k, ⟨_, rfl⟩, q⟩) hz
def blT (b : Bool) : Str := if b then "True" else "False"
theorem call_reprB {X : Cx} : CallR X (.builtin "repr") (fun xs H Q => ∃ b, xs = [.bl b] ∧ Q (.str (blT b)) H) := by
  intro pins s σ H xs us Q I r h
  obtain ⟨b, rfl, q⟩ := h
  obtain ⟨u, rfl, ru⟩ := vals1 r
  cases (show u = Value.bool b from ru)
  exact PySem.P.repr_of_bool ⟨.str (blT b), H, I.tok _, ⟨s.toks, by cases b <;> rfl⟩, q⟩
section
variable {X : Cx} {σ : L2.St} {H H' : Hp} {a b o e : Expr} {pos p : Pos} {P : PV}
def isV (K : PySem.W.Frag) (d : PyData) : PV := fun v H => VDp K H v d
theorem stb_isV {K : PySem.W.Frag} {d : PyData} : Stb (isV K d) := fun _ _ _ e h => VDp.mono e h
theorem ve_repr {d : PyData} (hgd : X.A.guards = some []) (hu : X.A.units + 64 < cLine) (hm : X.mg "repr" = none) (ha : VN X a σ H (isV X.K d)) (hd : Shw d) (hg : Gl X "repr" := by rfl) (hs : starEach [a] X.env = (false, eval a X.env) :: starEach [] X.env := by rfl) (hpl : (backTo pos (starEach [] X.env)).any (·.1) = false := by rfl) :
    VE X (.Call (.Name "repr" p) [a] [] pos) σ H (.str d.shown) :=
  vn_callB (call_reprD hgd hu) hm (by decide +kernel) (va1 ha stb_isV hs) (fun vs H1 e1 ⟨v, e, hv⟩ Q k => ⟨v, d, e, hv, hd, k _ H1 (Ex.refl H1) rfl⟩) hg (by decide) (by decide) hs hpl
theorem ve_reprB {c : Bool} (hm : X.mg "repr" = none) (ha : VE X a σ H (.bl c)) (hg : Gl X "repr" := by rfl) (hs : starEach [a] X.env = (false, eval a X.env) :: starEach [] X.env := by rfl) (hpl : (backTo pos (starEach [] X.env)).any (·.1) = false := by rfl) :
    VE X (.Call (.Name "repr" p) [a] [] pos) σ H (.str (blT c)) :=
  vn_callB call_reprB hm (by decide +kernel) (va1 ha stb_is hs) (fun vs H1 e1 ⟨v, e, hv⟩ Q k => ⟨c, by rw [e, show v = _ from hv], k _ H1 (Ex.refl H1) rfl⟩) hg (by decide) (by decide) hs hpl
end
theorem blT_inj {a b : Bool} (h : blT a = blT b) : a = b := by
  revert h
  cases a <;> cases b <;> decide +kernel
end W47
namespace W47
open PySem PySem.Spec PyProof.Rows L2 Evl C47
/-! ### xs[:] = ys -/
section
variable {prog : Program} {w : World} {A : Around} {E : Value → Shared → Prop} {s : Shared}
theorem bounds_all (n : Nat) : sliceBounds none none none n = (((0 : Nat) : Int), (n : Int), 1) := by
  simp [sliceBounds]
theorem setItem_all {l b sl : Addr} {items new : Array Value} {n n2 : Nat} {Q : Unit → Shared → Prop}
    (e : s.heap.get? l = some { cls := .type "list", data := .seq items n }) (e2 : s.heap.get? b = some { cls := .type "list", data := .seq new n2 }) (hne : l ≠ b)
    (hs : s.heap.IsSliceOf sl .none .none .none) (hsz : items.size + new.size ≤ sizeLine) (h : Q () { s with heap := s.heap.update l (Obj.mapSeq fun xs => xs.extract 0 0 ++ new ++ xs.extract items.size xs.size) }) :
    wpAny (model prog w) A (setItem (.ref l) (.ref sl) (.ref b)) Q E s := by
  have hl : s.heap.IsList l items := PySem.IsL.isList e
  have hb : s.heap.IsList b new := PySem.IsL.isList e2
  obtain ⟨os, hos, hcs, hds⟩ := id hs
  have hTs : s.TypeIs (.ref sl) "slice" := ⟨os, hos, hcs⟩
  have hstep : ¬ ((rawPart none == rawInt 0) = true) := Bool.false_ne_true
  have hsame : Builtin.List.listSameRef (.ref l) (.ref b) = false := by
    unfold Builtin.List.listSameRef
    exact beq_eq_false_iff_ne.mpr hne
  have hmax : (max ((0 : Nat) : Int) (items.size : Int)).toNat = items.size := by omega
  have hz' : ((fun xs : Array Value => xs.extract 0 0 ++ new ++ xs.extract items.size xs.size) items).size ≤ sizeLine + 1 := by
    simp only [Array.size_append, Array.size_extract]
    omega
  unfold setItem
  try with_reducible refine wpAny_holding ?_
  first | refine wpAny_bind (wpAny_pure ?_) | skip
  refine wpAny_bind (wpAny_sequenceKey hl.typeIs (by decide) ?_)
  refine wpAny_bind (wpAny_callSpecial?_slot (name := Str.ofString "__setitem__") hl.typeIs slot_list_setitem
    (wpAny_call_entry slot_list_setitem hl.typeIs entry_list_setitem ?_ (args_list_setitem _ _ _)))
  show wpAny _ _ (Builtin.List.listSubscript? (.ref sl) >>= _) _ _ s
  refine wpAny_bind ?_
  unfold Builtin.List.listSubscript?
  refine wpAny_bind (wpAny_specialOf hTs slice_no_index ?_)
  simp only [Option.isNone_none, if_true]
  refine wpAny_pure ?_
  show wpAny _ _ (typeOf (.ref sl) >>= _) _ _ s
  refine wpAny_bind (wpAny_typeOf hTs ?_)
  first
    | rw [if_neg (by decide)]
    | refine PySem.W.KFB.if_not (by decide) ?_
  rw [listSliceParts_eq]
  refine wpAny_bind (wpAny_bind (wpAny_field hos hds (x := .none) rfl (wpAny_bind (wpAny_listPart .none ?_))))
  rw [if_neg hstep]
  refine wpAny_bind (wpAny_field hos hds (x := .none) rfl (wpAny_bind (wpAny_listPart .none ?_)))
  refine wpAny_bind (wpAny_field hos hds (x := .none) rfl (wpAny_bind (wpAny_listPart .none (wpAny_pure ?_))))
  first
    | simp only [hsame, Bool.false_eq_true, if_false]
    | refine PySem.W.KFB.if_not hsame ?_
    | (dsimp only
       rw [if_neg (by rw [hsame]; exact Bool.false_ne_true)])
  refine wpAny_bind (m := Builtin.List.listAllItems (.ref b) "must assign iterable to extended slice") ?_
  unfold Builtin.List.listAllItems
  refine wpAny_bind (wpAny_typeOf hb.typeIs ?_)
  first
    | refine PySem.W.KFB.if_so (by decide) ?_
    | rw [if_pos (by decide)]
    | simp only [beq_self_eq_true, Bool.true_or, if_true]
  unfold Builtin.List.listItems
  refine wpAny_bind (wpAny_seqItems e2 rfl (wpAny_pure ?_))
  refine wpAny_bind (wpAny_bind (wpAny_seqItems e rfl (wpAny_pure ?_)))
  refine wpAny_bind (wpAny_of_eq ((sliceIndices_raw none none none items.size (by simp)).trans (congrArg (pure : Int × Int × Int → Sem (Int × Int × Int)) (bounds_all items.size))) ?_)
  show wpAny _ _ (if ((1 : Int) == 1) = true then _ else _) _ _ s
  rw [if_pos (by decide)]
  refine wpAny_bind (wpAny_rule ?_)
  first
    | simp only [notLongL hsz, Bool.false_eq_true, if_false]
    | refine PySem.W.KFB.if_not (notLongL hsz) ?_
  first | refine wpAny_bind (wpAny_pure ?_) | skip
  show wpAny _ _ (updateSeq l (fun xs => xs.extract 0 (((0 : Nat) : Int)).toNat ++ new ++ xs.extract (max ((0 : Nat) : Int) (items.size : Int)).toNat xs.size) >>= _) _ _ s
  rw [hmax, Int.toNat_natCast]
  refine wpAny_bind (wpAny_updateSeq (hz := Nat.le_trans (Nat.le_add_right _ _) hsz) (_hz' := hz') e rfl ?_)
  refine wpAny_bind (wpAny_letGo ?_)
  first
    | exact wpAny_bind (wpAny_pure (wpAny_pure ⟨.none, rfl, wpAny_pure h⟩))
    | exact wpAny_pure ⟨.none, rfl, wpAny_pure h⟩
end
def gAll (to : TE) : TG := fun v σ H Q => to σ H fun ov H1 => ∃ l b xs ys, ov = .ref l ∧ v = .ref b ∧ H1 l = some (.lst xs) ∧ H1 b = some (.lst ys) ∧ l ≠ b ∧ xs.length + ys.length ≤ sizeLine ∧ Q σ (upd H1 l (.lst ys))
section
variable {X : Cx} {σ : L2.St} {H : Hp} {a o e : Expr} {to : TE} {pos p2 : Pos} {D : Ends} {rest : List Stmt}
theorem pg_all (ho : PE X o to) (ha : ∀ v, assign (.Subscript o (.Slice none none none p2) pos) X.env v = (do
      let ov ← holding [v] (eval o X.env)
      let iv ← holding [v, ov] (eval (.Slice none none none p2) X.env)
      standAt pos
      holding [v, ov, iv] (setItem ov iv v)
      release [iv, v, ov] []) := by intro _; rfl) : PG X (.Subscript o (.Slice none none none p2) pos) (gAll to) := by
  refine ⟨fun pins s σ H v u Q I r h => ?_⟩
  rw [ha]
  refine wpAny_bind (wpAny_holding (thn (ho.run pins s σ H _ I h) fun ov s1 ⟨x, H1, I1, r1, l, b, xs, ys, ex, ev, hl, hb, hne, hz, q⟩ => ?_))
  subst ex ev
  cases (show ov = Value.ref l from r1)
  cases (show u = Value.ref b from r)
  refine wpAny_bind (wpAny_holding (wpAny_Slice ?_))
  rw [evalPart_none]
  refine wpAny_pure (wpAny_pure (wpAny_pure ?_))
  have I2 : Inv X pins σ H1 { s1 with heap := s1.heap.push { cls := .type "slice", data := .fields #[.none, .none, .none] } } := I1.kept (t' := s1.toks) fun b ob q => Heap.get?_push_of_some _ q
  obtain ⟨z, its, n, rv, hlen, e1⟩ := I2.lstM hl
  obtain ⟨z2, its2, n2, rv2, hlen2, e2⟩ := I2.lstM hb
  refine wpAny_bind (wpAny_standAt (wpAny_bind (wpAny_holding (setItem_all e1 e2 hne (Heap.IsSliceOf.new ..) (by rw [List.size_toArray, List.size_toArray]; omega) ?_))))
  refine wpAny_release ⟨σ, _, ?_, q⟩
  refine I2.lset (its' := its2) (t' := s1.toks) hl e1 ?_ rv2 (by omega)
  have := splice_eq its its2 0 its.length
  rw [List.take_zero, List.nil_append, List.drop_length, List.append_nil] at this
  simpa using this
/-- xs[:] = ys -/
theorem vs_setAll {l b : Addr} {xs ys : List V} (ho : VE X o σ H (.ref l)) (he : VE X e σ H (.ref b)) (hl : H l = some (.lst xs)) (hb : H b = some (.lst ys)) (hne : l ≠ b) (hz : xs.length + ys.length ≤ 100000)
    (k : ∀ H1, Ex H H1 → VS X rest D σ (upd H1 l (.lst ys)))
    (ha : ∀ v, assign (.Subscript o (.Slice none none none p2) pos) X.env v = (do
      let ov ← holding [v] (eval o X.env)
      let iv ← holding [v, ov] (eval (.Slice none none none p2) X.env)
      standAt pos
      holding [v, ov, iv] (setItem ov iv v)
      release [iv, v, ov] []) := by intro _; rfl) {spos : Pos} (hs : swapsWithSole [.Subscript o (.Slice none none none p2) pos] e spos.line X.env = pure false := by rfl) (hw : swappedStores [.Subscript o (.Slice none none none p2) pos] e X.env = pure none := by rfl)
    (h1 : (assignEach [.Subscript o (.Slice none none none p2) pos] X.env).map (·.2) = [assign (.Subscript o (.Slice none none none p2) pos) X.env] := by rfl) : VS X (.Assign [.Subscript o (.Slice none none none p2) pos] e spos :: rest) D σ H :=
  vs_cons (ps_asg pe_any (pg_all pe_any ha) hs hw h1) (he.here fun v H1 e1 ev => ho H1 e1 _ fun ov H2 e2 eo => ⟨l, b, xs, ys, eo, ev, (e1.trans e2) _ _ hl, (e1.trans e2) _ _ hb, hne, sz_of hz, k H2 (e1.trans e2)⟩)
end
/-! ### a call that leaves no text half shown: the guards are empty -/
structure DG (P : Program) (w : World) (K : PySem.W.Frag) (mg : Str → Option Value) (base : Heap) (n : Str) (k : Nat) (ps : List Str) (sp : Sp) : Prop where
  ex : ∃ f fd, mg n = some (.ref f) ∧ PySem.W.keepIn K (.ref f) = true ∧ Binds K fd ps [] ∧ (∀ vs H Q E, sp vs H Q E → vs.length = ps.length) ∧
    ∀ (A : Around) (outer : List Env) (s : Shared) (H : Hp) (args : Args) (us : List Value) (vs : List V) (Q : VK) (E : XK), A.guards = some [] → Room k A → Env0 P w K mg base A outer s H → BindsTo s fd args (ps.zip us) → Vals vs us → sp vs H Q E →
      codeAny (model P w) A (.call (.ref f) args) (CR CX0 outer P w H s Q E) s
theorem fnG_of {P : Program} {w : World} {K : PySem.W.Frag} {mg : Str → Option Value} {base : Heap} {x qual : Str} {params : Arguments} {body : List Stmt} {scope : Scope} {dvs : List V} {kws : List (Str × V)} {f : Addr} {fd : FuncData} {N ps : List Str} {k : Nat} {sp : Sp} (F : FunD K x qual params body scope dvs kws f fd) (S : FnScope N ps scope) (len : ∀ vs H Q E, sp vs H Q E → vs.length = ps.length)
    (hbody : ∀ (cdv : Value) (A : Around) (outer : List Env) (s : Shared) (H : Hp) (vs : List V) (Q : VK) (E : XK), A.guards = some [] → Room k (A.deeper (envOfC qual scope s.heap.objs.size f cdv)) → sp vs H Q E →
      ∃ t, PSs (cxOf CX0 P w K mg base N qual scope f cdv A outer s H E) body t ∧ t { nx := fun _ H' => Q .non H', rt := Q } (start N vs) H) :
    ∀ (A : Around) (outer : List Env) (s : Shared) (H : Hp) (args : Args) (us : List Value) (vs : List V) (Q : VK) (E : XK), A.guards = some [] → Room (k + 1) A → Env0 P w K mg base A outer s H → BindsTo s fd args (ps.zip us) → Vals vs us → sp vs H Q E →
      codeAny (model P w) A (.call (.ref f) args) (CR CX0 outer P w H s Q E) s := by
  obtain ⟨oc, od, dV, kV, doc, pm, an, cdv, ct, osl, rfl, lk, hcd, _, _⟩ := F.ex
  intro A outer s H args us vs Q E hg hr e0 hb r hsp
  have hl := len _ _ _ _ hsp
  have KX : K.In s.heap := e0.mod.kin.keeps fun b o e => (e0.bs b o e).1
  have lim : s.heap.NoLimit := e0.mod.nolimit.keeps fun b o e => (e0.bs b o e).1
  have hkind : ∀ y ∈ ps.zip us, scope.names.lookup y.1 = some .local ∨ (scope.names.lookup y.1 = some .cell ∧ ((cellsFrom (s.heap.objs.size + 1) scope.names []).lookup y.1).isSome = true) := fun ⟨n, v⟩ hy => by
    rcases S.par n (List.of_mem_zip hy).1 with q | q
    · exact .inl q
    · exact .inr ⟨q, PySem.W.cellsFrom_some _ _ _ (.inl q)⟩
  refine codeAny_call_function hr.depth (KX _ _ lk) rfl S.co S.gen rfl (PySem.W.codeRec_of KX hcd) (hb _ _ _ _ ?_)
  refine wpAny_newFunctionEnv_cells S.kind hkind fun env he s1 x => ?_
  subst he
  refine ⟨lim.keeps x.toInCall.keep, codeAny_func ?_⟩
  obtain ⟨t, ht, hq⟩ := hbody cdv A outer s H vs Q E hg (hr.deeper _) hsp
  have I : Inv (cxOf CX0 P w K mg base N qual scope f cdv A outer s H E) [] (start N vs) H s1 := inv_start S hr.hd e0 hl r x
  refine wpAny_mono (ht.run [] s1 (start N vs) H _ I hq) (fun fl s' hs => ?_) fun e s' hs => hs
  have fin : ∀ {σ' : L2.St} {H' : Hp} {v : V} {u : Value}, Inv (cxOf CX0 P w K mg base N qual scope f cdv A outer s H E) [] σ' H' s' → RelV v u → Q v H' → CE outer P w H s Q u s' :=
    fun {σ' H' v u} J rv q => ⟨v, H', J.os, J.bare, J.base, J.hok, rv, q⟩
  cases fl with
  | ret u =>
    obtain ⟨v, σ', H', J, rv, q⟩ := hs
    exact fin J rv q
  | next =>
    obtain ⟨σ', H', J, q⟩ := hs
    exact fin (v := V.non) (u := Value.none) J rfl q
  | brk =>
    obtain ⟨_, _, _, q⟩ := hs
    exact False.elim q
  | cont =>
    obtain ⟨_, _, _, q⟩ := hs
    exact False.elim q
section
variable {P : Program} {w : World} {K : PySem.W.Frag} {mg : Str → Option Value} {base : Heap}
theorem dg_gen {n : Str} {st : Stmt} {N ps : List Str} {k : Nat} {sp : Sp} (F : FnP K mg n st) (S : FnScope N ps (defScope st)) (hlen : ∀ vs H Q E, sp vs H Q E → vs.length = ps.length)
    (hb : ∀ (kV doc pm : Value) (an : Option Addr) (cdv ct : Value) (us : List Value), us.length = ps.length → bindArgs (PySem.W.fnOf n n (defArgs st) (defBody st) (defScope st) .none kV doc pm an cdv ct) ⟨us, []⟩ = pure (ps.zip us))
    (body : ∀ (f : Addr) (cdv : Value) (A : Around) (outer : List Env) (s : Shared) (H : Hp) (vs : List V) (Q : VK) (E : XK), (cx P w K mg base N n (defScope st) f cdv A outer s H E).A.guards = some [] → Room k (cx P w K mg base N n (defScope st) f cdv A outer s H E).A → sp vs H Q E →
      VS (cx P w K mg base N n (defScope st) f cdv A outer s H E) (defBody st) { nx := fun _ H' => Q .non H', rt := Q } (start N vs) H) : DG P w K mg base n (k + 1) ps sp := by
  obtain ⟨f, fd, hm, hf⟩ := F.ex
  refine ⟨f, fd, hm, hf.kp, hf.bindsN hb, hlen, fnG_of hf S hlen fun cdv A outer s H vs Q E hg hr hsp => ?_⟩
  obtain ⟨t, h, q⟩ := body f cdv A outer s H vs Q E hg hr hsp
  exact ⟨t, h.nox, q⟩
end
section
variable {X : Cx} {σ : L2.St} {H H' : Hp} {e : Expr} {es : List Expr} {pos p : Pos} {n : Str} {k : Nat} {ps : List Str} {sp : Sp} {PA' : List V → Hp → Prop} {Q : VK}
/-- f(e, ..), from where we stand -/
theorem ge_callG (F : DG X.prog X.w X.K X.mg X.base n k ps sp) (hgd : X.A.guards = some []) (hr : Room k X.A) (ha : anyA X (e :: es) σ H fun vs H1 => sp vs H1 Q E0) (hg : Gl X n := by rfl)
    (hdb : (n == ("__debug__" : Str)) = false := by decide) (he : starEach (e :: es) X.env = (false, eval e X.env) :: starEach es X.env := by rfl) (hpl : (backTo pos (starEach es X.env)).any (·.1) = false := by rfl) : anyE X (.Call (.Name n p) (e :: es) [] pos) σ H Q := by
  obtain ⟨f, fd, hm, kp, hb, hlen, run⟩ := F.ex
  refine ⟨fun σ H Q => anyA X (e :: es) σ H fun vs H1 => sp vs H1 Q E0, ⟨fun pins s σ H Q I h => ?_⟩, ha⟩
  refine wpAny_Call_Name_kw (ld_glob I hg hm ?_ hdb)
  refine PySem.W.callWith_K (h₀ := X.base) I.ok.mod.kin kp (thn (pa_any.run pos pins s σ H _ I h) fun us s1 ⟨vs, H1, I1, r, q⟩ => ⟨I1.kIn, ?_⟩) he hpl
  have hl : us.length = ps.length := by rw [← r.length]; exact hlen _ _ _ _ q
  have hb1 := hb s1 us I1.kIn (by rw [List.append_nil]; exact hl)
  rw [List.append_nil] at hb1
  refine wpAny_call (codeAny_mono (run X.A X.stack s1 H1 ⟨us, []⟩ us vs Q E0 hgd hr I1.env0 hb1 r q) fun r s' hq => ?_)
  cases r with
  | error e => exact pass0 pins σ H1 s1 e s' I1 hq
  | ok fl =>
    cases fl with
    | ret u => exact I1.after hq
    | next => exact False.elim hq
    | brk => exact False.elim hq
    | cont => exact False.elim hq
theorem ge_call (F : DF X.prog X.w X.K X.mg X.base n k ps sp) (hr : Room k X.A) (ha : anyA X (e :: es) σ H fun vs H1 => sp vs H1 Q E0) (hg : Gl X n := by rfl)
    (hdb : (n == ("__debug__" : Str)) = false := by decide) (he : starEach (e :: es) X.env = (false, eval e X.env) :: starEach es X.env := by rfl) (hpl : (backTo pos (starEach es X.env)).any (·.1) = false := by rfl) : anyE X (.Call (.Name n p) (e :: es) [] pos) σ H Q := by
  obtain ⟨f, fd, hm, kp, hb, ok, _⟩ := F.ex
  refine ⟨_, pe_call ok hr hg hm kp hb .nil pass0 pa_any hdb he hpl, ?_⟩
  obtain ⟨t, h, q⟩ := ha
  exact ⟨t, h, by simpa using q⟩
end
end W47
namespace W47
open PySem PySem.Spec PyProof.Rows L2 Evl C47
/-! ### the law's generator: a list of three ints at g -/
/-- all but g is kept -/
def Kp (g : Addr) (H H' : Hp) : Prop := ∀ b o, b ≠ g → H b = some o → H' b = some o
theorem Kp.refl {g : Addr} {H : Hp} : Kp g H H := fun _ _ _ h => h
theorem Kp.trans {g : Addr} {H H1 H2 : Hp} (a : Kp g H H1) (b : Kp g H1 H2) : Kp g H H2 := fun c o h q => b c o h (a c o h q)
theorem Kp.of {g : Addr} {H H1 : Hp} (e : Ex H H1) : Kp g H H1 := fun b o _ h => e b o h
def Gn (g : Addr) (n : Nat) (H : Hp) : Prop := ∃ x s c : Int, H g = some (.lst [.int x, .int s, .int c]) ∧ 0 ≤ s ∧ s < 2147483647 ∧ 0 ≤ c ∧ c ≤ n
theorem Gn.ex {g : Addr} {n : Nat} {H H1 : Hp} (e : Ex H H1) (h : Gn g n H) : Gn g n H1 := by
  obtain ⟨x, s, c, h1, h2⟩ := h
  exact ⟨x, s, c, e _ _ h1, h2⟩
theorem Gn.mono {g : Addr} {n m : Nat} {H : Hp} (h : Gn g n H) (hm : n ≤ m) : Gn g m H := by
  obtain ⟨x, s, c, h1, h2, h3, h4, h5⟩ := h
  exact ⟨x, s, c, h1, h2, h3, h4, by omega⟩
/-- what was new stays free of all but g -/
theorem Kp.ne {g a : Addr} {n : Nat} {H : Hp} (h : Gn g n H) (hn : H a = none) : a ≠ g := by
  obtain ⟨x, s, c, h1, _⟩ := h
  intro z
  rw [z, h1] at hn
  cases hn
theorem Kp.none {g a : Addr} {n : Nat} {H H1 : Hp} (k : Kp g H H1) (h : Gn g n H) (hn : H1 a = none) : H a = none ∨ a = g := by
  by_cases z : a = g
  · exact .inr z
  · cases q : H a with
    | none => exact .inl rfl
    | some o => rw [k a o z q] at hn; cases hn
theorem Kp.none' {g a : Addr} {n m : Nat} {H H1 : Hp} (k : Kp g H H1) (h : Gn g n H) (h1 : Gn g m H1) (hn : H1 a = Option.none) : H a = Option.none := by
  rcases Kp.none k h hn with q | q
  · exact q
  · subst q
    obtain ⟨x, s, c, q, _⟩ := h1
    rw [q] at hn; cases hn
section
variable {P : Program} {w : World} {K : PySem.W.Frag} {mg : Str → Option Value} {base : Heap} {C : Addr}
/-- _law_hash -/
abbrev prHash : Pr := fun vs H P => ∃ s c : Int, vs = [.int s, .int c] ∧ 0 ≤ s ∧ s < 2147483647 ∧ 0 ≤ c ∧ c < 1099511627776 ∧ P = fun v _ => ∃ d : Int, v = .int d ∧ 0 ≤ d ∧ d < 2147483647
theorem sc36 : FnScope ["_law_seed", "_law_index", "_law_mixed"] ["_law_seed", "_law_index"] (defScope (top 36)) := ⟨rfl, rfl, rfl, by decide +kernel, rfl, by decide +kernel, by decide +kernel⟩
theorem df_hash (F : FnP K mg "_law_hash" (top 36)) (B : Bl mg) : DF P w K mg base "_law_hash" 1 ["_law_seed", "_law_index"] (spOf prHash) := by
  refine df_mk F sc36 (fun vs H P ⟨s, c, e, _⟩ => by rw [e]; rfl) (fun _ _ _ _ _ _ us hl => match us, hl with | [_, _], _ => rfl) ?_
  rintro f cdv A outer s H vs R E hr ⟨sd, c, rfl, hs0, hs1, hc0, hc1, rfl⟩
  refine vs_set (i := 2) sc36.nd (ve_mod (by omega) (ve_inti B.int (ve_add (ve_add (ve_add (ve_mul (i := sd) (j := 1048583) (.inr (by omega)) (lv 0) ve_int) (ve_mul (i := 16777259 * c) (j := c) (.inr (by omega)) (ve_mul (i := 16777259) (j := c) (.inl (by omega)) ve_int (lv 1)) (lv 1))) (ve_mul (i := 71) (j := c) (.inl (by omega)) ve_int (lv 1))) ve_int)) ve_int) fun v1 H1 e1 ev => ?_
  cases ev
  generalize hm : (sd * 1048583 + 16777259 * c * c + 71 * c + 13) % 2147483629 = m
  have hm0 : 0 ≤ m := by rw [← hm]; exact Int.emod_nonneg _ (by omega)
  have hm1 : m < 2147483629 := by rw [← hm]; exact Int.emod_lt_of_pos _ (by omega)
  refine vs_set (i := 2) sc36.nd (ve_mod (by omega) (ve_inti B.int (ve_add (ve_add (ve_mul (i := m) (j := m) (.inl (by omega)) (lv 2) (lv 2)) (ve_mul (i := 40503) (j := c) (.inl (by omega)) ve_int (lv 1))) ve_int)) ve_int) fun v2 H2 e2 ev => ?_
  cases ev
  generalize hm' : (m * m + 40503 * c + 27644437) % 2147483587 = m'
  have hm0' : 0 ≤ m' := by rw [← hm']; exact Int.emod_nonneg _ (by omega)
  have hm1' : m' < 2147483587 := by rw [← hm']; exact Int.emod_lt_of_pos _ (by omega)
  refine vs_ret (ve_mod (by omega) (ve_inti B.int (ve_mul (i := m') (j := 69069) (.inl (by omega)) (lv 2) ve_int)) ve_int) fun v3 H3 e3 ev => ⟨(e1.trans e2).trans e3, _, ev, Int.emod_nonneg _ (by omega), Int.emod_lt_of_pos _ (by omega)⟩
/-- _law_random -/
def spRand : Sp := fun vs H Q _ => ∃ (g : Addr) (bd : Int) (n : Nat), vs = [.ref g, .int bd] ∧ Gn g n H ∧ n ≤ 1000000 ∧ 1 ≤ bd ∧ bd ≤ 1000000 ∧ ∀ (d : Int) H', 0 ≤ d → d < bd → Kp g H H' → Gn g (n + 1) H' → Q (.int d) H'
theorem sc37 : FnScope ["_law_generator_here", "_law_bound", "_law_drawn", "_law_turn"] ["_law_generator_here", "_law_bound"] (defScope (top 37)) := ⟨rfl, rfl, rfl, by decide +kernel, rfl, by decide +kernel, by decide +kernel⟩
theorem df_rand (F : FnP K mg "_law_random" (top 37)) (B : Bl mg) (D1 : DF P w K mg base "_law_hash" 1 ["_law_seed", "_law_index"] (spOf prHash)) : DF P w K mg base "_law_random" 2 ["_law_generator_here", "_law_bound"] spRand := by
  refine df_gen F sc37 (fun vs H Q E ⟨g, bd, n, e, _⟩ => by rw [e]; rfl) (fun _ _ _ _ _ _ us hl => match us, hl with | [_, _], _ => rfl) ?_
  rintro f cdv A outer s H vs Q E hr ⟨g, bd, n, rfl, ⟨x, sd, c, hg, hs0, hs1, hc0, hc1⟩, hn, hb1, hb2, q⟩
  have hL : isL K [.int x, .int sd, .int c] (.ref g) H := ⟨g, rfl, sq_of hg⟩
  refine vs_if (c := decide (0 < x)) (vt_gt (ve_ixL (v := .int x) (llv hL (lv 0)) ve_int rfl) ve_int) (fun hx H1 e1 => ?_) fun hx H1 e1 => ?_
  · have hL1 := stb_isL _ _ _ e1 hL
    refine vs_set (i := 2) sc37.nd (ve_mod (i := x) (j := bd) (by omega) (ve_inti B.int (ve_ixL (v := .int x) (llv hL1 (lv 0)) ve_int rfl)) (lv 1)) fun v2 H2 e2 ev => ?_
    cases ev
    have hL2 := stb_isL _ _ _ e2 hL1
    refine vs_setL (l := g) (xs := [.int x, .int sd, .int c]) (z := 0) (j := 0) (P := Is (.int (x / bd))) ((e1.trans e2) _ _ hg) (ve_div (by omega) (ve_ixL (v := .int x) (llv hL2 (lv 0)) ve_int rfl) (lv 1)) (lv 0) ve_int rfl (fun v3 H3 e3 ev => ?_) stb_is
    cases ev
    refine vs_ret (lv 2) fun v4 H4 e4 ev => ?_
    cases ev
    have e03 := (e1.trans e2).trans e3
    refine q (x % bd) _ (Int.emod_nonneg _ (by omega)) (Int.emod_lt_of_pos _ (by omega)) (fun b o hb ho => e4 _ _ (by rw [upd_ne hb]; exact e03 _ _ ho)) ⟨x / bd, sd, c, e4 _ _ upd_same, hs0, hs1, hc0, by omega⟩
  · refine vs_nil ?_
    refine vs_set (i := 2) sc37.nd ve_int fun v2 H2 e2 ev => ?_
    cases ev
    have e02 := e1.trans e2
    have hbits : Builtin.Int.intBits bd ≤ 20 := PyProof.Rows.intBits_le (by omega)
    have hz : 1 + ((Builtin.Int.intBits bd : Nat) : Int) / 30 = 1 := by omega
    refine vs_forR1 (i := 3) (z := 1) sc37.nd B.range (VE.to (ve_add ve_int (ve_div (by omega) (ve_bits (lv 1)) ve_int)) (by rw [hz])) (by omega) (fun j σ' H' => ∃ d u : Int, ∃ t, σ' = [some (.ref g), some (.int bd), some (.int d), t] ∧ Kp g H H' ∧ H' g = some (.lst [.int x, .int sd, .int (c + j)])) (fun H3 e3 => ⟨0, 0, none, rfl, Kp.of (e02.trans e3), by rw [(e02.trans e3) _ _ hg]; simp⟩) ?_ ?_
    · rintro j σ' H' hj ⟨d, u, t, rfl, hk, hg'⟩
      have hj0 : j = 0 := by omega
      subst hj0
      have hg' : H' g = some (.lst [.int x, .int sd, .int c]) := by rw [hg']; simp
      have hL' : isL K [.int x, .int sd, .int c] (.ref g) H' := ⟨g, rfl, sq_of hg'⟩
      refine vs_setL (l := g) (xs := [.int x, .int sd, .int c]) (z := 2) (j := 2) (P := Is (.int (c + 1))) hg' (ve_add (ve_ixL (v := .int c) (llv hL' (lv 0)) ve_int rfl) ve_int) (lv 0) ve_int rfl (fun v3 H3 e3 ev => ?_) stb_is
      cases ev
      have hg3 : (upd H3 g (.lst [.int x, .int sd, .int (c + 1)])) g = some (.lst [.int x, .int sd, .int (c + 1)]) := upd_same
      have hk3 : Kp g H (upd H3 g (.lst [.int x, .int sd, .int (c + 1)])) := fun b o hb ho => by rw [upd_ne hb]; exact e3 _ _ (hk b o hb ho)
      show VS _ _ _ _ (upd H3 g (.lst [.int x, .int sd, .int (c + 1)]))
      generalize upd H3 g (.lst [.int x, .int sd, .int (c + 1)]) = H4 at hg3 hk3
      have hL4 : isL K [.int x, .int sd, .int (c + 1)] (.ref g) H4 := ⟨g, rfl, sq_of hg3⟩
      refine vs_set (i := 2) sc37.nd (P := fun v _ => ∃ d' : Int, v = .int d') (vn_op op_add (Pb := fun v _ => ∃ d' : Int, v = .int d' ∧ 0 ≤ d' ∧ d' < 2147483647) (ve_mul (i := d) (j := 2147483587) (.inr (by omega)) (lv 2) ve_int) (vn_call D1 (hr.mono (by decide)) (va2 (ve_ixL (v := .int sd) (llv hL4 (lv 0)) ve_int rfl) (ve_ixL (v := .int (c + 1)) (llv hL4 (lv 0)) ve_int rfl) stb_is stb_is) (by
        rintro _ H5 e5 ⟨_, _, rfl, rfl, rfl⟩
        exact ⟨_, ⟨sd, c + 1, rfl, hs0, hs1, by omega, by omega, rfl⟩, fun v H6 e6 h => h⟩)) stb_is (by
          rintro _ _ H5 e5 rfl ⟨d', rfl, _⟩ Q' k
          exact ⟨_, _, rfl, rfl, k _ _ (Ex.refl _) ⟨_, rfl⟩⟩)) fun v5 H5 e5 ev => ?_
      obtain ⟨d', rfl⟩ := ev
      exact vs_nil ⟨d', 0, _, rfl, fun b o hb ho => e5 _ _ (hk3 b o hb ho), by rw [e5 _ _ hg3]; simp⟩
    · rintro σ' H' ⟨d, u, t, rfl, hk, hg'⟩
      refine vs_ret (ve_mod (i := d) (j := bd) (by omega) (ve_inti B.int (lv 2)) (lv 1)) fun v4 H4 e4 ev => ?_
      cases ev
      exact q (d % bd) _ (Int.emod_nonneg _ (by omega)) (Int.emod_lt_of_pos _ (by omega)) (hk.trans (Kp.of e4)) ⟨x, sd, c + 1, by rw [e4 _ _ hg']; simp, hs0, hs1, by omega, by omega⟩
/-- _law_cell -/
abbrev prCell (K : PySem.W.Frag) : Pr := fun vs H P => ∃ (a : V) (ns : List Int) (i : Nat), vs = [a, .int (i : Int)] ∧ isL K (isI ns) a H ∧ P = fun v _ => ∃ d : Int, v = .int d
theorem sc38 : FnScope ["_law_script", "_law_index"] ["_law_script", "_law_index"] (defScope (top 38)) := ⟨rfl, rfl, rfl, by decide +kernel, rfl, by decide +kernel, by decide +kernel⟩
theorem df_cell (F : FnP K mg "_law_cell" (top 38)) (B : Bl mg) : DF P w K mg base "_law_cell" 1 ["_law_script", "_law_index"] (spOf (prCell K)) := by
  refine df_mk F sc38 (fun vs H P ⟨a, ns, i, e, _⟩ => by rw [e]; rfl) (fun _ _ _ _ _ _ us hl => match us, hl with | [_, _], _ => rfl) ?_
  rintro f cdv A outer s H vs R E hr ⟨a, ns, i, rfl, ha, rfl⟩
  refine vs_ifret (c := decide ((i : Int) < (isI ns).length)) (P := fun v _ => ∃ d : Int, v = .int d) (vt_lt (lv 1) (ve_len B.len (llv ha (lv 0)))) (fun hc => ?_) (fun _ v H1 e1 p => ⟨e1, p⟩) fun hc H1 e1 => ?_
  · have hc := of_decide_eq_true hc
    rw [isI_len] at hc
    exact (ve_ixL (llv ha (lv 0)) (lv 1) (at_In (by omega))).imp fun v _ _ ev => ⟨_, ev⟩
  · have ha1 := stb_isL _ _ _ e1 ha
    refine vs_ret (ve_mod (j := 1000003) (by omega) (ve_sum (o := ns.take 1) B.sum ((vn_sl (llv ha1 (lv 0)) po_none (po_some pe_any) eo_none (ve_int : VE _ _ _ _ (.int 1)).ev).imp fun v H2 e2 h => ?_)) ve_int) fun v H2 e2 ev => ⟨e1.trans e2, _, ev⟩
    have e : cutV (isI ns) none (some 1) = isI (ns.take 1) := by
      unfold cutV
      rw [show (1 : Int) = ((1 : Nat) : Int) from rfl, HT.sIx_nat]
      show ((isI ns).drop 0).take (min 1 (isI ns).length - 0) = _
      rw [List.drop_zero, Nat.sub_zero, isI_len, isI, isI, List.map_take]
      cases ns <;> simp
    rw [e] at h
    exact h.l
/-- _law_generator -/
abbrev prGen (K : PySem.W.Frag) : Pr := fun vs H P => ∃ (a : V) (ns : List Int) (i : Nat), vs = [a, .int (i : Int)] ∧ isL K (isI ns) a H ∧ i ≤ 2 ∧ P = fun v H' => ∃ g, v = .ref g ∧ H g = none ∧ Gn g 2000 H'
theorem sc39 : FnScope ["_law_script", "_law_index", "_law_seed"] ["_law_script", "_law_index"] (defScope (top 39)) := ⟨rfl, rfl, rfl, by decide +kernel, rfl, by decide +kernel, by decide +kernel⟩
theorem df_lgen (F : FnP K mg "_law_generator" (top 39)) (B : Bl mg) (D1 : DF P w K mg base "_law_cell" 1 ["_law_script", "_law_index"] (spOf (prCell K))) : DF P w K mg base "_law_generator" 2 ["_law_script", "_law_index"] (spOf (prGen K)) := by
  refine df_mk F sc39 (fun vs H P ⟨a, ns, i, e, _⟩ => by rw [e]; rfl) (fun _ _ _ _ _ _ us hl => match us, hl with | [_, _], _ => rfl) ?_
  rintro f cdv A outer s H vs R E hr ⟨a, ns, i, rfl, ha, hi, rfl⟩
  refine vs_set (i := 2) sc39.nd (vn_call D1 hr (va2 (llv ha (lv 0)) (lv 1) stb_isL stb_is) (P := fun v _ => ∃ d : Int, v = .int d) (by
    rintro _ H1 e1 ⟨x, _, rfl, hx, rfl⟩
    exact ⟨_, ⟨x, ns, i, rfl, hx, rfl⟩, fun v H2 e2 h => h⟩)) fun v1 H1 e1 ev => ?_
  obtain ⟨sd, rfl⟩ := ev
  have b10 : Builtin.Int.intBits 10 ≤ 4 := PyProof.Rows.intBits_le (by decide)
  have b60 : Builtin.Int.intBits (10 ^ (60 : Int).toNat) ≤ 200 := PyProof.Rows.intBits_le (by decide +kernel)
  refine vs_ret (vn_lst (va3 (ve_mod (j := ((10 : Int) ^ (60 : Int).toNat) ^ (10 : Int).toNat) (by decide +kernel) (ve_inti B.int (ve_max2 (i := sd - 10 ^ (18 : Int).toNat) (j := 0) B.max (ve_sub (i := sd) (lv 2) (ve_pow (i := 10) (j := 18) ⟨by decide, by omega⟩ ve_int ve_int)) ve_int)) (ve_pow ⟨by decide, by omega⟩ (ve_pow (i := 10) (j := 60) ⟨by decide, by omega⟩ ve_int ve_int) ve_int)) (ve_mod (i := sd) (j := 2147483647) (by omega) (ve_inti B.int (lv 2)) ve_int) (ve_mul (i := 1000) (j := (i : Int)) (.inl (by omega)) ve_int (lv 1)) stb_is stb_is stb_is) (fun _ _ _ _ h => h) fun vs _ ⟨_, _, _, e, _⟩ => by rw [e]; simp) fun v2 H2 e2 h => ⟨e1.trans e2, ?_⟩
  obtain ⟨p, xs, rfl, hp0, hp, _, _, _, rfl, rfl, rfl, rfl⟩ := h
  exact ⟨p, rfl, fresh_back e1 hp0, _, _, _, hp, Int.emod_nonneg _ (by omega), Int.emod_lt_of_pos _ (by omega), by omega, by omega⟩
end
end W47
namespace W47
open PySem PySem.Spec PyProof.Rows L2 Evl C47
/-! ### a pair of the law: the kind's name and size -/
def PAt (k : Kd) : PV := fun v H => ∃ t, v = .ref t ∧ H t = some (.tup [.str (nmS k.nm), .int (k.n : Int)])
theorem stb_P {k : Kd} : Stb (PAt k) := fun _ _ _ e ⟨t, h1, h2⟩ => ⟨t, h1, e _ _ h2⟩
theorem PAt.kp {k : Kd} {g : Addr} {n : Nat} {v : V} {H H1 : Hp} (h : PAt k v H) (hg : Gn g n H) (kp : Kp g H H1) : PAt k v H1 := by
  obtain ⟨t, h1, h2⟩ := h
  refine ⟨t, h1, kp _ _ (fun z => ?_) h2⟩
  obtain ⟨x, s, c, q, _⟩ := hg
  rw [z, q] at h2
  cases h2
section
variable {X : Cx} {σ : L2.St} {H H' : Hp} {a b e : Expr} {es : List Expr} {pos p : Pos} {k : Kd} {v : V} {n : Str} {Q : VK} {QA : List V → Hp → Prop}
theorem ve_p0 {j} (ha : VN X a σ H (PAt k)) (hs : PlainIx (.Constant (.int 0) j p) := by exact fun _ _ => rfl) : VE X (.Subscript a (.Constant (.int 0) j p) pos) σ H (.str (nmS k.nm)) :=
  vn_ixT (R := fun ys _ => ys = [.str (nmS k.nm), .int (k.n : Int)]) (ha.imp fun v H' e1 ⟨t, e, h⟩ => ⟨t, _, e, SqT.of h, rfl⟩) ve_int (fun _ _ _ _ h => h) (fun ys H' _ e => ⟨_, by rw [e]; rfl, rfl⟩) hs
theorem ve_p1 {j} (ha : VN X a σ H (PAt k)) (hs : PlainIx (.Constant (.int 1) j p) := by exact fun _ _ => rfl) : VE X (.Subscript a (.Constant (.int 1) j p) pos) σ H (.int (k.n : Int)) :=
  vn_ixT (R := fun ys _ => ys = [.str (nmS k.nm), .int (k.n : Int)]) (ha.imp fun v H' e1 ⟨t, e, h⟩ => ⟨t, _, e, SqT.of h, rfl⟩) ve_int (fun _ _ _ _ h => h) (fun ys H' _ e => ⟨_, by rw [e]; rfl, rfl⟩) hs
theorem pv (h : PAt k v H) (hl : VE X (.Name n pos) σ H v) : VN X (.Name n pos) σ H (PAt k) := hl.imp fun u H1 e1 eu => by rw [show u = v from eu]; exact stb_P _ _ _ e1 h
theorem ve_mir {j} {p2 p3 : Pos} (ha : VN X a σ H (PAt k)) (hs : PlainIx (.Constant (.int 0) j p) := by exact fun _ _ => rfl) : VE X (.Compare (.Subscript a (.Constant (.int 0) j p) pos) [.Eq] [.Constant (.str "mirror") 0 p2] p3) σ H (.bl (decide (k.nm = .mirror))) := VE.to (ve_eq (ve_p0 ha hs) ve_str) (by rw [nm_mirror])
theorem ve_pla {j} {p2 p3 : Pos} (ha : VN X a σ H (PAt k)) (hs : PlainIx (.Constant (.int 0) j p) := by exact fun _ _ => rfl) : VE X (.Compare (.Subscript a (.Constant (.int 0) j p) pos) [.Eq] [.Constant (.str "plain") 0 p2] p3) σ H (.bl (decide (k.nm = .plain))) := VE.to (ve_eq (ve_p0 ha hs) ve_str) (by rw [nm_plain])
theorem vt_mir {j} {p2 p3 : Pos} (ha : VN X a σ H (PAt k)) (hs : PlainIx (.Constant (.int 0) j p) := by exact fun _ _ => rfl) : VT X (.Compare (.Subscript a (.Constant (.int 0) j p) pos) [.Eq] [.Constant (.str "mirror") 0 p2] p3) σ H (decide (k.nm = .mirror)) := VT.to (vt_eq (ve_p0 ha hs) ve_str) (nm_mirror k)
theorem vt_rin {j} {p2 p3 : Pos} (ha : VN X a σ H (PAt k)) (hs : PlainIx (.Constant (.int 0) j p) := by exact fun _ _ => rfl) : VT X (.Compare (.Subscript a (.Constant (.int 0) j p) pos) [.Eq] [.Constant (.str "ring") 0 p2] p3) σ H (decide (k.nm = .ring)) := VT.to (vt_eq (ve_p0 ha hs) ve_str) (nm_ring k)
/-! from where we stand -/
theorem ge_ix (h : anyE X a σ H fun x H1 => anyE X b σ H1 fun y H2 => ∃ p xs i v, x = .ref p ∧ y = .int i ∧ SqL X.K H2 p xs ∧ atI xs i = some v ∧ Q v H2) (hs : PlainIx b := by exact fun _ _ => rfl) : anyE X (.Subscript a b pos) σ H Q := ⟨_, pe_ix ix_list pe_any pe_any hs, h⟩
theorem ga_cons (h : anyE X e σ H fun v H1 => anyA X es σ H1 fun vs H2 => QA (v :: vs) H2) (hs : starEach (e :: es) X.env = (false, eval e X.env) :: starEach es X.env := by rfl) : anyA X (e :: es) σ H QA := ⟨_, pa_cons pe_any pa_any hs, h⟩
theorem ga_nil (h : QA [] H) : anyA X [] σ H QA := ⟨_, pa_nil, h⟩
/-- several values, each as told -/
def PL (Ps : List PV) : List V → Hp → Prop := fun vs H => Paired (fun v P => P v H) vs Ps
theorem va_p0 : VA X [] σ H (PL []) := va_nil.imp fun v H' _ e => by rw [e]; exact .nil
theorem va_p {P : PV} {Ps : List PV} (h : VN X e σ H P) (st : Stb P) (hr : VA X es σ H (PL Ps)) (hs : starEach (e :: es) X.env = (false, eval e X.env) :: starEach es X.env := by rfl) : VA X (e :: es) σ H (PL (P :: Ps)) :=
  (va_cons h st hr hs).imp fun v H' _ ⟨x, r, e, p, q⟩ => by rw [e]; exact .cons p q
theorem stb_PL {Ps : List PV} (h : ∀ P ∈ Ps, Stb P) : StbA (PL Ps) := by
  intro vs H H' e q
  induction q with
  | nil => exact .nil
  | cons r t ih => exact .cons (h _ List.mem_cons_self _ _ _ e r) (ih fun P hP => h P (List.mem_cons_of_mem _ hP))
theorem vn_pair {k' : Nat} {s : Str} {i : Int} {j1 j2} {p1 p2 : Pos} (k : Kd) (h1 : s = nmS k.nm := by rfl) (h2 : i = (k.n : Int) := by rfl) (hs : starEach [.Constant (.str s) j1 p1, .Constant (.int i) j2 p2] X.env = (false, eval (.Constant (.str s) j1 p1) X.env) :: starEach [.Constant (.int i) j2 p2] X.env := by rfl) (hs2 : starEach [.Constant (.int i) j2 p2] X.env = (false, eval (.Constant (.int i) j2 p2) X.env) :: starEach [] X.env := by rfl) :
    VN X (.Tuple [.Constant (.str s) j1 p1, .Constant (.int i) j2 p2] k' pos) σ H (PAt k) :=
  (vn_tup (va2 ve_str ve_int stb_is stb_is hs hs2) (fun _ _ _ _ h => h) fun vs _ ⟨_, _, e, _⟩ => by rw [e]; simp).imp fun v H' _ ⟨p, xs, e, _, hp, x, y, e2, ex, ey⟩ => ⟨p, e, by rw [hp, e2, show x = _ from ex, show y = _ from ey, h1, h2]⟩
end
/-- the kinds that the law draws -/
def lawK : List Kd := [⟨.plain, 3⟩, ⟨.plain, 4⟩, ⟨.mirror, 2⟩, ⟨.mirror, 3⟩, ⟨.ring, 3⟩, ⟨.ring, 4⟩, ⟨.ring, 2⟩, ⟨.plain, 5⟩, ⟨.plain, 2⟩, ⟨.mirror, 1⟩, ⟨.plain, 1⟩, ⟨.mirror, 4⟩]
def LK (k : Kd) : Prop := k.ok ∧ k.n ≤ 5 ∧ (k.nm = .ring → k.n ≤ 4)
theorem lawK_ok : ∀ k ∈ lawK, LK k := by
  intro k hk
  simp only [lawK, List.mem_cons, List.not_mem_nil, or_false] at hk
  rcases hk with h | h | h | h | h | h | h | h | h | h | h | h <;> subst h <;> exact ⟨by simp [Kd.ok], by simp, fun h => by first | (cases h; done) | simp⟩
section
variable {P : Program} {w : World} {K : PySem.W.Frag} {mg : Str → Option Value} {base : Heap} {C : Addr}
/-- _law_kind -/
def spLKind : Sp := fun vs H Q _ => ∃ (g : Addr) (n : Nat), vs = [.ref g] ∧ Gn g n H ∧ n ≤ 900000 ∧ ∀ k v H', LK k → Kp g H H' → Gn g (n + 2) H' → PAt k v H' → Q v H'
theorem sc40 : FnScope ["_law_generator_here", "_law_pairs"] ["_law_generator_here"] (defScope (top 40)) := ⟨rfl, rfl, rfl, by decide +kernel, rfl, by decide +kernel, by decide +kernel⟩
theorem df_lkind (F : FnP K mg "_law_kind" (top 40)) (B : Bl mg) (D1 : DF P w K mg base "_law_random" 2 ["_law_generator_here", "_law_bound"] spRand) : DF P w K mg base "_law_kind" 3 ["_law_generator_here"] spLKind := by
  refine df_gen F sc40 (fun vs H Q E ⟨g, n, e, _⟩ => by rw [e]; rfl) (fun _ _ _ _ _ _ us hl => match us, hl with | [_], _ => rfl) ?_
  rintro f cdv A outer s H vs Q E hr ⟨g, n, rfl, hg, hn, q⟩
  have stb9 : ∀ (l : List Kd), StbA (PL (l.map PAt)) := fun l => stb_PL fun P hP => by
    obtain ⟨k, _, rfl⟩ := List.mem_map.mp hP
    exact stb_P
  have lenPL : ∀ (l : List PV) vs H', PL l vs H' → vs.length = l.length := fun l vs H' h => paired_len h
  refine vs_set (i := 1) sc40.nd (vn_lst (PA' := PL ((lawK.take 9).map PAt)) (va_p (vn_pair ⟨.plain, 3⟩) stb_P <| va_p (vn_pair ⟨.plain, 4⟩) stb_P <| va_p (vn_pair ⟨.mirror, 2⟩) stb_P <| va_p (vn_pair ⟨.mirror, 3⟩) stb_P <| va_p (vn_pair ⟨.ring, 3⟩) stb_P <| va_p (vn_pair ⟨.ring, 4⟩) stb_P <| va_p (vn_pair ⟨.ring, 2⟩) stb_P <| va_p (vn_pair ⟨.plain, 5⟩) stb_P <| va_p (vn_pair ⟨.plain, 2⟩) stb_P va_p0) (stb9 _) fun vs H' h => by rw [lenPL _ _ _ h]; decide) fun v1 H1 e1 h => ?_
  obtain ⟨p1, xs1, rfl, hp10, hp1, hx1⟩ := h
  refine vs_set (i := 1) sc40.nd (P := fun v H' => ∃ q xs, v = .ref q ∧ H' q = some (.lst xs) ∧ PL (lawK.map PAt) xs H') (vn_op op_cat (Pb := fun v H' => ∃ q xs, v = .ref q ∧ H' q = some (.lst xs) ∧ PL ((lawK.drop 9).map PAt) xs H') (lv 1) ((vn_lst (PA' := PL ((lawK.drop 9).map PAt)) (va_p (vn_pair ⟨.mirror, 1⟩) stb_P <| va_p (vn_pair ⟨.plain, 1⟩) stb_P <| va_p (vn_pair ⟨.mirror, 4⟩) stb_P va_p0) (stb9 _) fun vs H' h => by rw [lenPL _ _ _ h]; decide).imp fun v H' _ ⟨q, xs, e, _, h1, h2⟩ => ⟨q, xs, e, h1, h2⟩) stb_is (by
    rintro _ _ H2 e2 rfl ⟨q2, xs2, rfl, hq2, hx2⟩ Q' k
    refine ⟨p1, q2, xs1, xs2, rfl, rfl, e2 _ _ hp1, hq2, ?_, fun l hl => k _ _ (Ex.new hl) ⟨l, _, rfl, upd_same, ?_⟩⟩
    · rw [lenPL _ _ _ hx1, lenPL _ _ _ hx2]; decide
    · have eN : Ex H2 (upd H2 l (.lst (xs1 ++ xs2))) := Ex.new hl
      have h1 := stb9 (lawK.take 9) _ _ _ (e2.trans eN) hx1
      have h2 := stb9 (lawK.drop 9) _ _ _ eN hx2
      have := paired_append h1 h2
      rw [← List.map_append, List.take_append_drop] at this
      exact this)) fun v2 H2 e2 h => ?_
  obtain ⟨p2, xs, rfl, hp2, hx⟩ := h
  have e02 := e1.trans e2
  have hg2 := Gn.ex e02 hg
  have hlen := lenPL _ _ _ hx
  rw [List.length_map] at hlen
  have hne : p2 ≠ g := fun z => by
    obtain ⟨x, sd, c, h1, _⟩ := hg2
    rw [z, h1] at hp2
    have := HO.lst.inj (Option.some.inj hp2)
    rw [← this] at hlen
    cases hlen
  refine vs_cons (ps_ret pe_any) (ge_ix ((lv 1 : VE _ _ _ _ (.ref p2)).here fun x3 H3 e3 ex => ?_))
  cases ex
  refine ge_call D1 hr (ga_cons ((lv 0 : VE _ _ _ _ (.ref g)).here fun x4 H4 e4 ex => ?_))
  cases ex
  have hg4 := Gn.ex (e3.trans e4) hg2
  refine ga_cons (ge_ix ((vn_lst (va2 (ve_int (i := 6)) (ve_int (i := 12)) stb_is stb_is) (fun _ _ _ _ h => h) fun vs _ ⟨_, _, e, _⟩ => by rw [e]; simp).here fun x5 H5 e5 h5 => ?_))
  obtain ⟨p5, xs5, rfl, hp50, hp5, _, _, rfl, rfl, rfl⟩ := h5
  have hg5 := Gn.ex e5 hg4
  have hne5 : p5 ≠ g := Kp.ne hg4 hp50
  refine ge_call D1 hr ((va2 (lv 0 : VE _ _ _ _ (.ref g)) (ve_int (i := 2)) stb_is stb_is).here ?_)
  rintro _ H6 e6 ⟨_, _, rfl, rfl, rfl⟩
  refine ⟨g, 2, n, rfl, Gn.ex e6 hg5, by omega, by omega, by omega, fun d H7 hd0 hd1 kp7 hg7 => ?_⟩
  have hp57 := kp7 _ _ hne5 (e6 _ _ hp5)
  have h612 : ∃ i : Int, atI [V.int 6, V.int 12] d = some (.int i) ∧ 1 ≤ i ∧ i ≤ 12 := by
    have : d = 0 ∨ d = 1 := by omega
    rcases this with rfl | rfl
    · exact ⟨6, rfl, by omega, by omega⟩
    · exact ⟨12, rfl, by omega, by omega⟩
  obtain ⟨bd, hat, hb1, hb2⟩ := h612
  refine ⟨p5, _, d, _, rfl, rfl, sq_of hp57, hat, ga_nil ⟨g, bd, n + 1, rfl, hg7, by omega, by omega, by omega, fun d2 H8 h20 h21 kp8 hg8 => ?_⟩⟩
  have kp28 : Kp g H2 H8 := (Kp.of ((e3.trans e4).trans (e5.trans e6))).trans (kp7.trans kp8)
  obtain ⟨j, rfl⟩ : ∃ j : Nat, d2 = j := ⟨d2.toNat, by omega⟩
  have hjl : j < xs.length := by rw [hlen]; show j < 12; omega
  have hjk : j < lawK.length := by rw [← hlen]; exact hjl
  have hPj : PAt lawK[j] xs[j] H2 := by
    have : ∀ (l : List Kd) (xs : List V), PL (l.map PAt) xs H2 → ∀ j (h1 : j < xs.length) (h2 : j < l.length), PAt l[j] xs[j] H2 := by
      intro l
      induction l with
      | nil => intro xs _ j _ h2; cases h2
      | cons k l ih =>
        intro xs hx j h1 h2
        cases hx with
        | cons r t =>
          cases j with
          | zero => exact r
          | succ j => exact ih _ t j (by simpa using h1) (by simpa using h2)
    exact this lawK xs hx j hjl hjk
  exact ⟨p2, xs, (j : Int), xs[j], rfl, rfl, sq_of (kp28 _ _ hne hp2), atI_nat (List.getElem?_eq_getElem hjl), q lawK[j] _ H8 (lawK_ok _ (List.getElem_mem _)) ((Kp.of e02).trans kp28) hg8 (hPj.kp hg2 kp28)⟩
end
end W47
namespace W47
open PySem PySem.Spec PyProof.Rows L2 Evl C47
section
variable {X : Cx} {σ : L2.St} {H : Hp} {a b : Expr} {pos : Pos} {D : Ends} {rest : List Stmt}
/-- x, y = a, b, one of them a cell -/
theorem vs_parC {i j : Nat} {n m : Str} {px py pt pt2 : Pos} {kt k2} {P1 P2 : PV} (hN : X.N.Nodup) (ha : VN X a σ H P1) (hb : VN X b σ H P2) (s1 : Stb P1) (s2 : Stb P2) (k : ∀ v w H1, Ex H H1 → P1 v H1 → P2 w H1 → VS X rest D ((σ.set i (some v)).set j (some w)) H1)
    (hc : X.calm = true := by rfl) (hi : X.N[i]? = some n := by rfl) (hj : X.N[j]? = some m := by rfl) (hxl : Loc X.env.scope n := by first | exact Or.inl rfl | exact Or.inr rfl) (hyl : Loc X.env.scope m := by first | exact Or.inl rfl | exact Or.inr rfl)
    (hf : X.fn n = true ∨ X.env.scope.names.lookup n = some .local := by first | exact .inl rfl | exact .inr rfl) (hf2 : X.fn m = true ∨ X.env.scope.names.lookup m = some .local := by first | exact .inl rfl | exact .inr rfl)
    (hst : starEach [a, b] X.env = (false, eval a X.env) :: starEach [b] X.env := by rfl) (hst2 : starEach [b] X.env = (false, eval b X.env) :: starEach [] X.env := by rfl)
    (q1 : (assignEach [.Name n px, .Name m py] X.env).map (·.2) = assign (.Name n px) X.env :: (assignEach [.Name m py] X.env).map (·.2) := by rfl) (q2 : (assignEach [.Name m py] X.env).map (·.2) = assign (.Name m py) X.env :: (assignEach [] X.env).map (·.2) := by rfl)
    (hn : (assignEach [.Name n px, .Name m py] X.env).length = 2 := by rfl) (hfi : (assignEach [.Name n px, .Name m py] X.env).findIdx? (·.1) = none := by rfl)
    (hs : swapsWithSole [.Tuple [.Name n px, .Name m py] kt pt] (.Tuple [a, b] k2 pt2) pos.line X.env = pure false := by rfl) (hw : swappedStores [.Tuple [.Name n px, .Name m py] kt pt] (.Tuple [a, b] k2 pt2) X.env = pure none := by rfl)
    (h1 : (assignEach [.Tuple [.Name n px, .Name m py] kt pt] X.env).map (·.2) = [assign (.Tuple [.Name n px, .Name m py] kt pt) X.env] := by rfl) :
    VS X (.Assign [.Tuple [.Name n px, .Name m py] kt pt] (.Tuple [a, b] k2 pt2) pos :: rest) D σ H :=
  vs_cons (ps_asg (pe_tup pa_any) (pg_tup hc (pgs_cons (pg_name hN hi hxl hf) (pgs_cons (pg_name hN hj hyl hf2) pgs_nil q2) q1) hn hfi) hs hw h1) ((va2 ha hb s1 s2 hst hst2).here fun vs H1 e1 ⟨v, w, ev, pv, pw⟩ => ⟨by rw [ev]; show 2 ≤ sizeLine; decide, fun t ht => by
    have e2 : Ex H1 (upd H1 t (.tup vs)) := Ex.new ht
    exact ⟨t, vs, rfl, SqT.of upd_same, by rw [ev]; rfl, v, [w], ev, w, [], rfl, rfl, k v w _ (e1.trans e2) (s1 _ _ _ e2 pv) (s2 _ _ _ e2 pw)⟩⟩)
end
section
variable {P : Program} {w : World} {K : PySem.W.Frag} {mg : Str → Option Value} {base : Heap} {C : Addr}
/-- _law_many -/
abbrev prMany : Pr := fun vs H P => ∃ v k, vs = [v] ∧ PAt k v H ∧ 1 ≤ k.n ∧ P = Is (.int (k.steps : Int))
theorem sc41 : FnScope ["_law_pair"] ["_law_pair"] (defScope (top 41)) := ⟨rfl, rfl, rfl, by decide +kernel, rfl, by decide +kernel, by decide +kernel⟩
theorem df_many (F : FnP K mg "_law_many" (top 41)) (B : Bl mg) : DF P w K mg base "_law_many" 1 ["_law_pair"] (spOf prMany) := by
  refine df_mk F sc41 (fun vs H P ⟨v, k, e, _⟩ => by rw [e]; rfl) (fun _ _ _ _ _ _ us hl => match us, hl with | [_], _ => rfl) ?_
  rintro f cdv A outer s H vs R E hr ⟨v, k, rfl, hv, hn, rfl⟩
  refine vs_ret (ve_sub (ve_p1 (pv hv (lv 0))) (ve_intb B.int (ve_pla (pv hv (lv 0))))) fun u H1 e1 ev => ⟨e1, ?_⟩
  rw [ev]
  show V.int _ = V.int _
  congr 1
  unfold Kd.steps
  cases hk : k.nm
  · show (k.n : Int) - 1 = ((k.n - 1 : Nat) : Int); omega
  · show (k.n : Int) - 0 = (k.n : Int); omega
  · show (k.n : Int) - 0 = (k.n : Int); omega
/-- _law_start -/
abbrev prLStart : Pr := fun vs H P => ∃ v k, vs = [v] ∧ PAt k v H ∧ k.n ≤ 7 ∧ P = newL H (isI k.start)
theorem sc42 : FnScope ["_law_pair", "_law_first"] ["_law_pair"] (defScope (top 42)) := ⟨rfl, rfl, rfl, by decide +kernel, rfl, by decide +kernel, by decide +kernel⟩
theorem df_lstart (F : FnP K mg "_law_start" (top 42)) (B : Bl mg) : DF P w K mg base "_law_start" 1 ["_law_pair"] (spOf prLStart) := by
  refine df_mk F sc42 (fun vs H P ⟨v, k, e, _⟩ => by rw [e]; rfl) (fun _ _ _ _ _ _ us hl => match us, hl with | [_], _ => rfl) ?_
  rintro f cdv A outer s H vs R E hr ⟨v, k, rfl, hv, hn, rfl⟩
  refine vs_set (i := 1) sc42.nd (ve_intb B.int (ve_mir (pv hv (lv 0)))) fun u H1 e1 ev => ?_
  have ev2 : u = .int k.first := by
    rw [show u = _ from ev]
    unfold Kd.first
    cases k.nm <;> rfl
  subst ev2
  have hv1 := stb_P _ _ _ e1 hv
  have h01 : 0 ≤ k.first ∧ k.first ≤ 1 := by unfold Kd.first; split <;> omega
  refine vs_ret (vn_listR B.list B.range (lv 1) (ve_add (lv 1) (ve_p1 (pv hv1 (lv 0)))) (by omega)) fun v H2 e2 h => ⟨e1.trans e2, ?_⟩
  have e : (k.first + (k.n : Int) - k.first).toNat = k.n := by omega
  rw [e] at h
  exact h.back e1
/-- _law_crossed -/
abbrev prLCr (K : PySem.W.Frag) : Pr := fun vs H P => ∃ v u k o g, vs = [v, u, .int ((g : Nat) : Int)] ∧ PAt k v H ∧ isL K (isI o) u H ∧ o.length = k.n ∧ g < k.steps ∧ P = Is (.bl (crossedB k o g))
theorem sc44 : FnScope ["_law_pair", "_law_order_here_here", "_law_step_here"] ["_law_pair", "_law_order_here_here", "_law_step_here"] (defScope (top 44)) := ⟨rfl, rfl, rfl, by decide +kernel, rfl, by decide +kernel, by decide +kernel⟩
theorem df_lcr (F : FnP K mg "_law_crossed" (top 44)) : DF P w K mg base "_law_crossed" 1 ["_law_pair", "_law_order_here_here", "_law_step_here"] (spOf (prLCr K)) := by
  refine df_mk F sc44 (fun vs H P ⟨v, u, k, o, g, e, _⟩ => by rw [e]; rfl) (fun _ _ _ _ _ _ us hl => match us, hl with | [_, _, _], _ => rfl) ?_
  rintro f cdv A outer s H vs R E hr ⟨v, u, k, o, g, rfl, hv, hu, hl, hg, rfl⟩
  have hsz := steps_le k
  refine vs_if (c := decide (k.nm = .mirror)) (vt_mir (pv hv (lv 0))) (fun hm H1 e1 => ?_) fun hm H1 e1 => ?_
  · have hm : k.nm = .mirror := of_decide_eq_true hm
    have hs : k.steps = k.n := by unfold Kd.steps; rw [hm]
    have hu := stb_isL _ _ _ e1 hu
    refine vs_ret (P := Is (.bl (crossedB k o g))) (vn_if (c := decide (g = 0)) (VT.to (vt_eq (lv 2) ve_int) (by rw [dec_intV]; exact decide_eq_decide.mpr ⟨fun h => by omega, fun h => by omega⟩)) (fun hz => ?_) fun hz => ?_) fun v2 H2 e2 ev => ⟨e1.trans e2, ev⟩
    · have hz : g = 0 := of_decide_eq_true hz
      refine VE.to (ve_lt (ve_ixL (llv hu (lv 1)) ve_int (v := .int (gi o 0)) (at_In (n := 0) (by omega))) ve_int) ?_
      unfold crossedB
      rw [hm, hz]
      rfl
    · have hz : ¬ g = 0 := of_decide_eq_false hz
      refine VE.to (ve_gt (ve_ixL (llv hu (lv 1)) (ve_sub (lv 2) ve_int) (v := .int (gi o (g - 1))) ?_) (ve_ixL (llv hu (lv 1)) (lv 2) (v := .int (gi o g)) (at_In (by omega)))) ?_
      · have := at_In (o := o) (n := g - 1) (by omega)
        rwa [show ((g - 1 : Nat) : Int) = (g : Int) - 1 by omega] at this
      · unfold crossedB
        rw [hm]
        show _ = V.bl (if g = 0 then _ else _)
        rw [if_neg hz]
  · have hm : ¬ k.nm = .mirror := of_decide_eq_false hm
    have hv1 := stb_P _ _ _ e1 hv
    have hu1 := stb_isL _ _ _ e1 hu
    refine vs_nil ?_
    refine vs_ifret (c := decide (k.nm = .ring) && decide (g + 1 = k.n)) (P := Is (.bl (crossedB k o g))) (vw_and (vt_rin (pv hv1 (lv 0))) fun _ => vw_and1 (VT.to (vt_eq (lv 2) (ve_sub (ve_p1 (pv hv1 (lv 0))) ve_int)) ?_)).t (fun hm2 => ?_) (fun _ v H2 e2 p => ⟨e1.trans e2, p⟩) fun hm2 H2 e2 => ?_
    · rw [dec_intV]
      exact decide_eq_decide.mpr ⟨fun h => by omega, fun h => by omega⟩
    · obtain ⟨h1, h2⟩ := Bool.and_eq_true_iff.mp hm2
      have h1 : k.nm = .ring := of_decide_eq_true h1
      have h2 : g + 1 = k.n := of_decide_eq_true h2
      refine VE.to (ve_gt (ve_ixL (llv hu1 (lv 1)) (lv 2) (v := .int (gi o g)) (at_In (by omega))) (ve_add (ve_ixL (llv hu1 (lv 1)) ve_int (v := .int (gi o 0)) (at_In (n := 0) (by omega))) (ve_p1 (pv hv1 (lv 0))))) ?_
      unfold crossedB
      rw [h1]
      show _ = V.bl (if g + 1 = k.n then _ else _)
      rw [if_pos h2]
    · have hlt : g + 1 < k.n := by
        unfold Kd.steps at hg
        cases hk : k.nm with
        | mirror => exact absurd hk hm
        | plain => rw [hk] at hg; have hg : g < k.n - 1 := hg; omega
        | ring =>
          rw [hk] at hg hm2
          have hg : g < k.n := hg
          have : ¬ g + 1 = k.n := fun z => by rw [decide_eq_true z] at hm2; cases hm2
          omega
      have hu2 := stb_isL _ _ _ e2 hu1
      refine vs_ret (VE.to (y := .bl (crossedB k o g)) (ve_gt (ve_ixL (llv hu2 (lv 1)) (lv 2) (v := .int (gi o g)) (at_In (by omega))) (ve_ixL (llv hu2 (lv 1)) (ve_add (lv 2) ve_int) (v := .int (gi o (g + 1))) ?_)) ?_) fun v H3 e3 p => ⟨(e1.trans e2).trans e3, p⟩
      · exact at_In (o := o) (n := g + 1) (by omega)
      · unfold crossedB
        cases hk : k.nm with
        | mirror => exact absurd hk hm
        | plain => rfl
        | ring =>
          rw [hk] at hm2
          have : ¬ g + 1 = k.n := fun z => by rw [decide_eq_true z] at hm2; cases hm2
          show _ = V.bl (if g + 1 = k.n then _ else _)
          rw [if_neg this]
/-- _law_step -/
abbrev prLSt (K : PySem.W.Frag) : Pr := fun vs H P => ∃ v u k o g, vs = [v, u, .int ((g : Nat) : Int)] ∧ PAt k v H ∧ isL K (isI o) u H ∧ o.length = k.n ∧ g < k.steps ∧ k.n ≤ 7 ∧ (k.nm = .ring → 2 ≤ k.n) ∧ P = newL H (isI (stepL k o g))
theorem sc43 : FnScope ["_law_pair", "_law_order_here_here", "_law_step_here", "_law_found", "_law_size", "_law_at"] ["_law_pair", "_law_order_here_here", "_law_step_here"] (defScope (top 43)) := ⟨rfl, rfl, rfl, by decide +kernel, rfl, by decide +kernel, by decide +kernel⟩
theorem df_lst (F : FnP K mg "_law_step" (top 43)) (B : Bl mg) : DF P w K mg base "_law_step" 1 ["_law_pair", "_law_order_here_here", "_law_step_here"] (spOf (prLSt K)) := by
  refine df_mk F sc43 (fun vs H P ⟨v, u, k, o, g, e, _⟩ => by rw [e]; rfl) (fun _ _ _ _ _ _ us hl => match us, hl with | [_, _, _], _ => rfl) ?_
  rintro f cdv A outer s H vs R E hr ⟨v, u, k, o, g, rfl, hv, hu, hl, hg, hn7, hr2, rfl⟩
  have hsz := steps_le k
  refine vs_par (i := 3) (j := 4) (P2 := Is (.int (k.n : Int))) sc43.nd (vn_list B.list (llv hu (lv 1))) (ve_p1 (pv hv (lv 0))) stb_newL stb_is fun _ _ H1 e1 ⟨p, ep, hp0, hp⟩ ew => ?_
  subst ep
  cases ew
  have hv1 := stb_P _ _ _ e1 hv
  have hu1 := stb_isL _ _ _ e1 hu
  have fin : ∀ {σ' : L2.St} {H' : Hp}, Ex H H' → H' p = some (.lst (isI (stepL k o g))) → σ'[3]? = some (some (.ref p)) → VS (cx P w K mg base ["_law_pair", "_law_order_here_here", "_law_step_here", "_law_found", "_law_size", "_law_at"] "_law_step" (defScope (top 43)) f cdv A outer s H E) [(defBody (top 43)).getD 2 (.Pass ⟨0, 0, 0, 0⟩)] (en H (newL H (isI (stepL k o g)))) σ' H' := fun {σ' H'} e h hσ =>
    vs_ret (lv 3 hσ : VE _ _ _ _ (.ref p)) fun v2 H2 e2 ev => ⟨e.trans e2, p, ev, hp0, e2 _ _ h⟩
  refine vs_if (c := decide (k.nm = .mirror) && decide (g = 0)) (vw_and (vt_mir (pv hv1 (lv 0))) fun _ => vw_and1 (VT.to (vt_eq (lv 2) ve_int) (by rw [dec_intV]; exact decide_eq_decide.mpr ⟨fun h => by omega, fun h => by omega⟩))).t (fun hc H2 e2 => ?_) fun hc H2 e2 => ?_
  · obtain ⟨h1, h2⟩ := Bool.and_eq_true_iff.mp hc
    have h1 : k.nm = .mirror := of_decide_eq_true h1
    have h2 : g = 0 := of_decide_eq_true h2
    have hp2 := e2 _ _ hp
    refine vs_setL (j := 0) hp2 (ve_sub (i := 0) (j := gi o 0) ve_int (ve_ixL ((lv 3 : VE _ _ _ _ (.ref p)).imp fun v3 H3 e3 ev => ⟨p, ev, sq_of (e3 _ _ hp2)⟩) ve_int (v := .int (gi o 0)) (at_In (n := 0) (by omega)))) (lv 3) ve_int (ixn (j := 0) (by rw [isI_len]; omega)) (fun v3 H3 e3 ev => ?_) stb_is
    refine vs_nil (fin (ex_but ((e1.trans e2).trans e3) hp0 fun c x hc hne => by rw [upd_ne hne]; exact hc) ?_ rfl)
    rw [upd_same, show v3 = _ from ev, isI_set, Int.zero_sub]
    unfold stepL
    rw [h1, h2]
    rfl
  · have hv2 := stb_P _ _ _ e2 hv1
    have hu2 := stb_isL _ _ _ e2 hu1
    have hp2 := e2 _ _ hp
    have hc : ¬ (k.nm = .mirror ∧ g = 0) := fun ⟨a, b⟩ => by rw [decide_eq_true a, decide_eq_true b] at hc; cases hc
    refine vs_if (c := decide (k.nm = .ring) && decide (g + 1 = k.n)) (vw_and (vt_rin (pv hv2 (lv 0))) fun _ => vw_and1 (VT.to (vt_eq (lv 2) (ve_sub (lv 4) ve_int)) (by rw [dec_intV]; exact decide_eq_decide.mpr ⟨fun h => by omega, fun h => by omega⟩))).t (fun hc2 H3 e3 => ?_) fun hc2 H3 e3 => ?_
    · obtain ⟨h1, h2⟩ := Bool.and_eq_true_iff.mp hc2
      have h1 : k.nm = .ring := of_decide_eq_true h1
      have h2 : g + 1 = k.n := of_decide_eq_true h2
      have hp3 := e3 _ _ hp2
      have hu3 := stb_isL _ _ _ e3 hu2
      have hn2 := hr2 h1
      refine vs_set2 (P1 := Is (.int (gi o g - (k.n : Int)))) (P2 := Is (.int (gi o 0 + (k.n : Int)))) (j1 := 0) (j2 := g) hp3 (ve_sub (ve_ixL (llv hu3 (lv 1)) (lv 2) (v := .int (gi o g)) (at_In (by omega))) (lv 4)) (ve_add (ve_ixL (llv hu3 (lv 1)) ve_int (v := .int (gi o 0)) (at_In (n := 0) (by omega))) (lv 4)) stb_is stb_is
        (lv 3) ve_int (ixn (j := 0) (by rw [isI_len]; omega)) (fun v4 H4 _ _ => lv 3) (fun v4 H4 _ _ => lv 2) (ixn (by rw [isI_len]; omega)) fun v4 v5 H4 kp ⟨H5, _, ev4, ev5⟩ hp4 => ?_
      refine vs_nil (vs_nil (fin (ex_but ((e1.trans e2).trans e3) hp0 kp) ?_ rfl))
      rw [hp4, show v4 = _ from ev4, show v5 = _ from ev5, isI_set, isI_set]
      unfold stepL
      rw [h1]
      show _ = some (HO.lst (isI (if g + 1 = k.n then _ else _)))
      rw [if_pos h2]
    · have hp3 := e3 _ _ hp2
      have hu3 := stb_isL _ _ _ e3 hu2
      have hv3 := stb_P _ _ _ e3 hv2
      have hc2 : ¬ (k.nm = .ring ∧ g + 1 = k.n) := fun ⟨a, b⟩ => by rw [decide_eq_true a, decide_eq_true b] at hc2; cases hc2
      obtain ⟨at_, hat, hlt, hst⟩ : ∃ at_ : Nat, (g : Int) - (if decide (k.nm = .mirror) then 1 else 0) = at_ ∧ at_ + 1 < o.length ∧ stepL k o g = swapAt o at_ := by
        unfold Kd.steps at hg
        unfold stepL
        cases hk : k.nm with
        | plain => rw [hk] at hg; have hg : g < k.n - 1 := hg; exact ⟨g, by simp, by omega, rfl⟩
        | mirror =>
          rw [hk] at hg
          have hg : g < k.n := hg
          have : ¬ g = 0 := fun z => hc ⟨hk, z⟩
          refine ⟨g - 1, ?_, by omega, ?_⟩
          · rw [decide_eq_true rfl, if_pos rfl]; omega
          · show (if g = 0 then _ else _) = _
            rw [if_neg this]
        | ring =>
          rw [hk] at hg
          have hg : g < k.n := hg
          have : ¬ g + 1 = k.n := fun z => hc2 ⟨hk, z⟩
          refine ⟨g, by simp, by omega, ?_⟩
          show (if g + 1 = k.n then _ else _) = _
          rw [if_neg this]
      rw [hst] at fin
      refine vs_set (i := 5) sc43.nd (VE.to (y := .int (at_ : Int)) (ve_sub (lv 2) (ve_intb B.int (ve_mir (pv hv3 (lv 0))))) (by rw [hat])) fun v4 H4 e4 ev4 => ?_
      cases ev4
      have hp4 := e4 _ _ hp3
      have hu4 := stb_isL _ _ _ e4 hu3
      refine vs_set2 (xs := isI o) (j1 := at_) (j2 := at_ + 1) hp4 (ve_ixL (llv hu4 (lv 1)) (ve_add (lv 5) ve_int) (v := .int (gi o (at_ + 1))) (at_In (n := at_ + 1) (by omega))) (ve_ixL (llv hu4 (lv 1)) (lv 5) (v := .int (gi o at_)) (at_In (by omega))) stb_is stb_is
        (lv 3) (lv 5) (ixn (by rw [isI_len]; omega)) (fun v5 H5 _ _ => lv 3) (fun v5 H5 _ _ => ve_add (lv 5) ve_int) (ixn (n := (isI o).length) (j := at_ + 1) (by rw [isI_len]; omega)) fun v5 v6 H5 kp ⟨H6, _, ev5, ev6⟩ hp5 => ?_
      rw [hst]
      refine vs_nil (vs_nil (fin (ex_but (((e1.trans e2).trans e3).trans e4) hp0 kp) ?_ rfl))
      rw [hp5, show v5 = _ from ev5, show v6 = _ from ev6, isI_set, isI_set]
      rfl
/-- _law_made -/
abbrev prLMade (K : PySem.W.Frag) : Pr := fun vs H P => ∃ v u k row, vs = [v, u] ∧ PAt k v H ∧ isL K (isN row) u H ∧ C47.Row k row ∧ k.ok ∧ k.n ≤ 7 ∧ P = newL H (isI (made k row))
theorem sc45 : FnScope ["_law_pair", "_law_row_here", "_law_found", "_law_step_here"] ["_law_pair", "_law_row_here"] (defScope (top 45)) := ⟨rfl, rfl, rfl, by decide +kernel, rfl, by decide +kernel, by decide +kernel⟩
theorem df_lmade (F : FnP K mg "_law_made" (top 45)) (D0 : DF P w K mg base "_law_start" 1 ["_law_pair"] (spOf prLStart)) (D1 : DF P w K mg base "_law_step" 1 ["_law_pair", "_law_order_here_here", "_law_step_here"] (spOf (prLSt K))) : DF P w K mg base "_law_made" 2 ["_law_pair", "_law_row_here"] (spOf (prLMade K)) := by
  refine df_mk F sc45 (fun vs H P ⟨v, u, k, row, e, _⟩ => by rw [e]; rfl) (fun _ _ _ _ _ _ us hl => match us, hl with | [_, _], _ => rfl) ?_
  rintro f cdv A outer s H vs R E hr ⟨v, u, k, row, rfl, hv, hu, hrow, hk, hn7, rfl⟩
  obtain ⟨hn, hr2⟩ := ok_n hk
  refine vs_set (i := 2) sc45.nd (vn_call D0 hr (va1 (pv hv (lv 0)) stb_P) (P := newL H (isI k.start)) (by
    rintro _ H2 e2 ⟨x, rfl, hx⟩
    exact ⟨_, ⟨x, k, rfl, hx, hn7, rfl⟩, fun u H3 e3 eu => eu.back e2⟩)) fun p0 H1 e1 hp0 => ?_
  obtain ⟨q, rfl, hq⟩ := hu
  refine vs_forL (i := 3) sc45.nd (lv 1) (ex_l e1 hq) (fun j σ' H' => ∃ p c, σ' = [some v, some (.ref q), some p, c] ∧ newL H (isI (made k (row.take j))) p H' ∧ Ex H1 H') (fun H2 e2 => ⟨p0, none, rfl, stb_newL _ _ _ e2 hp0, e2⟩) (fun j σ' H' _ ⟨_, _, _, _, e⟩ => ex_l (e1.trans e) hq) ?_ ?_
  · rintro j x σ' H' hj ⟨p, c, rfl, hp, e⟩
    obtain ⟨hjl, rfl⟩ := isN_get hj
    have hv' := stb_P _ _ _ (e1.trans e) hv
    refine vs_set (i := 2) sc45.nd (vn_call D1 hr (va3 (pv hv' (lv 0)) (llv (hp.l (K := K)) (lv 2)) (lv 3) stb_P stb_isL stb_is) (P := newL H (isI (made k (row.take (j + 1))))) (by
      rintro _ H2 e2 ⟨x, y, _, rfl, hx, hy, rfl⟩
      refine ⟨_, ⟨x, y, k, _, _, rfl, hx, hy, made_len _ _, hrow _ (List.getElem_mem hjl), hn7, hr2, rfl⟩, fun u H3 e3 eu => ?_⟩
      rw [made_take k row j hjl]
      exact eu.back ((e1.trans e).trans e2))) fun p2 H2 e2 hp2 => vs_nil ⟨p2, _, rfl, hp2, e.trans e2⟩
  · rintro σ' H' ⟨p, c, rfl, hp, e⟩
    refine vs_ret (lv 2 : VE _ _ _ _ p) fun v2 H2 e2 ev => ⟨e1.trans (e.trans e2), ?_⟩
    rw [List.length_map, List.take_length] at hp
    rw [show v2 = p from ev]
    exact stb_newL _ _ _ e2 hp
/-- _law_greedy -/
abbrev prLGr (K : PySem.W.Frag) : Pr := fun vs H P => ∃ v u k row, vs = [v, u] ∧ PAt k v H ∧ isL K (isN row) u H ∧ C47.Row k row ∧ k.ok ∧ k.n ≤ 7 ∧ P = newL H (isI (greedyL k row))
theorem upperL_len (k : Kd) (o : List Int) (g : Nat) : (upperL k o g).length = o.length := by
  unfold upperL
  split
  · rfl
  · exact stepL_len _ _ _
theorem greedy_len (k : Kd) (row : List Nat) : (greedyL k row).length = k.n := by
  have : ∀ (r : List Nat) (o : List Int), (r.foldl (upperL k) o).length = o.length := by
    intro r
    induction r with
    | nil => intro o; rfl
    | cons g r ih => intro o; rw [List.foldl_cons, ih, upperL_len]
  unfold greedyL
  rw [this]
  exact irange_len _ _
theorem greedy_take (k : Kd) (row : List Nat) (j : Nat) (h : j < row.length) : greedyL k (row.take (j + 1)) = upperL k (greedyL k (row.take j)) row[j] := by
  unfold greedyL
  rw [List.take_succ, List.getElem?_eq_getElem h, List.foldl_append]
  rfl
theorem sc48 : FnScope ["_law_pair", "_law_row_here", "_law_found", "_law_step_here"] ["_law_pair", "_law_row_here"] (defScope (top 48)) := ⟨rfl, rfl, rfl, by decide +kernel, rfl, by decide +kernel, by decide +kernel⟩
theorem df_lgr (F : FnP K mg "_law_greedy" (top 48)) (D0 : DF P w K mg base "_law_start" 1 ["_law_pair"] (spOf prLStart)) (D1 : DF P w K mg base "_law_step" 1 ["_law_pair", "_law_order_here_here", "_law_step_here"] (spOf (prLSt K))) (D2 : DF P w K mg base "_law_crossed" 1 ["_law_pair", "_law_order_here_here", "_law_step_here"] (spOf (prLCr K))) : DF P w K mg base "_law_greedy" 2 ["_law_pair", "_law_row_here"] (spOf (prLGr K)) := by
  refine df_mk F sc48 (fun vs H P ⟨v, u, k, row, e, _⟩ => by rw [e]; rfl) (fun _ _ _ _ _ _ us hl => match us, hl with | [_, _], _ => rfl) ?_
  rintro f cdv A outer s H vs R E hr ⟨v, u, k, row, rfl, hv, hu, hrow, hk, hn7, rfl⟩
  obtain ⟨hn, hr2⟩ := ok_n hk
  refine vs_set (i := 2) sc48.nd (vn_call D0 hr (va1 (pv hv (lv 0)) stb_P) (P := newL H (isI k.start)) (by
    rintro _ H2 e2 ⟨x, rfl, hx⟩
    exact ⟨_, ⟨x, k, rfl, hx, hn7, rfl⟩, fun u H3 e3 eu => eu.back e2⟩)) fun p0 H1 e1 hp0 => ?_
  obtain ⟨q, rfl, hq⟩ := hu
  refine vs_forL (i := 3) sc48.nd (lv 1) (ex_l e1 hq) (fun j σ' H' => ∃ p c, σ' = [some v, some (.ref q), some p, c] ∧ newL H (isI (greedyL k (row.take j))) p H' ∧ Ex H1 H') (fun H2 e2 => ⟨p0, none, rfl, stb_newL _ _ _ e2 hp0, e2⟩) (fun j σ' H' _ ⟨_, _, _, _, e⟩ => ex_l (e1.trans e) hq) ?_ ?_
  · rintro j x σ' H' hj ⟨p, c, rfl, hp, e⟩
    obtain ⟨hjl, rfl⟩ := isN_get hj
    have hv' := stb_P _ _ _ (e1.trans e) hv
    have hgk := hrow _ (List.getElem_mem hjl)
    refine vs_set (i := 2) sc48.nd (P := newL H (isI (greedyL k (row.take (j + 1))))) (vn_if (c := crossedB k (greedyL k (row.take j)) row[j]) (vt_val (vn_call D2 hr (va3 (pv hv' (lv 0)) (llv (hp.l (K := K)) (lv 2)) (lv 3) stb_P stb_isL stb_is) (by
      rintro _ H2 e2 ⟨x, y, _, rfl, hx, hy, rfl⟩
      exact ⟨_, ⟨x, y, k, _, _, rfl, hx, hy, greedy_len _ _, hgk, rfl⟩, fun u H3 e3 eu => eu⟩))) (fun hc => (lv 2 : VE _ _ _ _ p).imp fun v2 H2 e2 ev => ?_) fun hc => vn_call D1 hr (va3 (pv hv' (lv 0)) (llv (hp.l (K := K)) (lv 2)) (lv 3) stb_P stb_isL stb_is) (by
      rintro _ H2 e2 ⟨x, y, _, rfl, hx, hy, rfl⟩
      refine ⟨_, ⟨x, y, k, _, _, rfl, hx, hy, greedy_len _ _, hgk, hn7, hr2, rfl⟩, fun u H3 e3 eu => ?_⟩
      rw [greedy_take k row j hjl, upperL, if_neg (by rw [hc]; decide)]
      exact eu.back ((e1.trans e).trans e2))) fun p2 H2 e2 hp2 => vs_nil ⟨p2, _, rfl, hp2, e.trans e2⟩
    rw [show v2 = p from ev, greedy_take k row j hjl, upperL, if_pos hc]
    exact stb_newL _ _ _ e2 hp
  · rintro σ' H' ⟨p, c, rfl, hp, e⟩
    refine vs_ret (lv 2 : VE _ _ _ _ p) fun v2 H2 e2 ev => ⟨e1.trans (e.trans e2), ?_⟩
    rw [List.length_map, List.take_length] at hp
    rw [show v2 = p from ev]
    exact stb_newL _ _ _ e2 hp
/-- _law_least -/
abbrev prLLe (K : PySem.W.Frag) : Pr := fun vs H P => ∃ v u k o, vs = [v, u] ∧ PAt k v H ∧ isL K (isI o) u H ∧ VL k o ∧ k.ok ∧ k.n ≤ 7 ∧ crs k o ≤ 30000 ∧ P = newL H (isN (rowOf k true o))
theorem sc47 : FnScope ["_law_pair", "_law_order_here_here", "_law_found", "_law_left", "_law_step_here", "_law_crossed_here"] ["_law_pair", "_law_order_here_here"] (defScope (top 47)) := ⟨rfl, rfl, rfl, by decide +kernel, rfl, by decide +kernel, by decide +kernel⟩
theorem pick_last (g : Nat) (gs : List Nat) : atI (isN (g :: gs)) (((isN (g :: gs)).length : Int) - 1) = some (.int (pick true g gs : Nat)) := by
  rw [List.length_map, show (((g :: gs).length : Nat) : Int) - 1 = ((gs.length : Nat) : Int) by simp]
  refine atI_nat ?_
  rw [List.getElem?_map]
  have : (g :: gs)[gs.length]? = some (pick true g gs) := by
    unfold pick
    rw [if_pos rfl, List.getLastD_eq_getLast?, List.getLast?_eq_getElem?]
    simp
  rw [this]
  rfl
theorem df_lle (F : FnP K mg "_law_least" (top 47)) (B : Bl mg) (D0 : DF P w K mg base "_law_many" 1 ["_law_pair"] (spOf prMany)) (D1 : DF P w K mg base "_law_step" 1 ["_law_pair", "_law_order_here_here", "_law_step_here"] (spOf (prLSt K))) (D2 : DF P w K mg base "_law_crossed" 1 ["_law_pair", "_law_order_here_here", "_law_step_here"] (spOf (prLCr K))) : DF P w K mg base "_law_least" 2 ["_law_pair", "_law_order_here_here"] (spOf (prLLe K)) := by
  refine df_mk F sc47 (fun vs H P ⟨v, u, k, o, e, _⟩ => by rw [e]; rfl) (fun _ _ _ _ _ _ us hl => match us, hl with | [_, _], _ => rfl) ?_
  rintro f cdv A outer s H vs R E hr ⟨v, u, k, o, rfl, hv, hu, hV, hk, hn7, hcr, rfl⟩
  obtain ⟨hn, hr2⟩ := ok_n hk
  have hu64 := hr.units
  have hsz := steps_le k
  refine vs_parC (i := 2) (j := 3) (P1 := newL H []) (P2 := newL H (isI o)) sc47.nd vn_nil (vn_list B.list (llv hu (lv 1))) stb_newL stb_newL fun q a H1 e1 hq ha => ?_
  obtain ⟨q, rfl, hq0, hq⟩ := hq
  obtain ⟨a, rfl, ha0, ha⟩ := ha
  by_cases hqa : a = q
  · subst hqa
    rw [hq] at ha
    have e : isI o = [] := (HO.lst.inj (Option.some.inj ha)).symm
    have : o.length = 0 := by have := congrArg List.length e; rwa [isI_len] at this
    have := VL.len hV
    omega
  refine vs_lcR1 (i := 4) (iy := 5) (z := (k.steps : Int)) (fun D j acc H' => acc = isN ((List.range j).filter (crossedB k o))) sc47.nd B.range (vn_call D0 (hr.mono (by decide)) (va1 (pv (stb_P _ _ _ e1 hv) (lv 0)) stb_P) (by
      rintro _ H2 e2 ⟨x, rfl, hx⟩
      exact ⟨_, ⟨x, k, rfl, hx, hn, rfl⟩, fun u H3 e3 eu => eu⟩)) (by omega) (blkOk_by (own := [("_law_step_here", 4)]) (N := ["_law_pair", "_law_order_here_here", "_law_found", "_law_left", "_law_step_here", "_law_crossed_here"]) (sc := defScope (top 47)) (by decide +kernel)) (fun _ _ _ _ _ => pg_name (i := 4) sc47.nd rfl (Or.inl rfl)) (fun _ => rfl) (fun _ _ _ _ => rfl) ?_ ?_ rfl
  · intro D j acc H' hD e hd hj hR
    subst hR
    have hv' := stb_P _ _ _ (e1.trans e) hv
    have hu' : isL K (isI o) (.ref a) H' := ⟨a, rfl, sq_of (e _ _ ha)⟩
    refine ⟨crossedB k o j, Is (.int (j : Int)), fun _ _ _ _ _ => vts_one (vt_val (vn_call D2 (hr.mono (by decide)) (va3 (pv hv' (lv 0)) (llv hu' (lv 3)) (lv 4) stb_P stb_isL stb_is) (by
      rintro _ H1 e1 ⟨x, y, _, rfl, hx, hy, rfl⟩
      exact ⟨_, ⟨x, y, k, o, j, rfl, hx, hy, VL.len hV, by omega, rfl⟩, fun u H2 e2 eu => eu⟩))), fun hc => ⟨fun _ _ _ _ _ => lv 4, fun v1 H1 _ ev => ?_⟩, fun hc H1 _ => ?_⟩
    · rw [show v1 = _ from ev, filter_succ, hc, if_pos rfl]
      simp [isN]
    · rw [filter_succ, hc]
      simp
  · rintro _ H2 e2 ⟨b, acc, rfl, hb0, hb, hR⟩
    rw [Int.toNat_natCast] at hR
    have hb : H2 b = some (.lst (isN (falls k o))) := by rw [hb, hR]; rfl
    refine vs_while (fun m σ' H' => ∃ acc a b o' c, σ' = [some v, some u, some (.ref q), some (.ref a), c, some (.ref b)] ∧ Ex H H' ∧ H' q = some (.lst (isN acc)) ∧ a ≠ q ∧ H' a = some (.lst (isI o')) ∧ b ≠ q ∧ H' b = some (.lst (isN (falls k o'))) ∧ VL k o' ∧ acc ++ desc k true (crs k o') o' = desc k true (crs k o) o ∧ acc.length + crs k o' = crs k o ∧ m = crs k o')
      _ ⟨[], a, b, o, none, rfl, e1.trans e2, e2 _ _ hq, hqa, e2 _ _ ha, Ne.symm (ne_of_none hq hb0), hb, hV, rfl, by simp, rfl⟩ ?_
    rintro m σ' H' ⟨acc, a', b', o', c, rfl, e, hq', haq, ha', hbq, hb', hV', hd, hlen, rfl⟩
    refine ⟨!decide (falls k o' = []), vt_neN hu64 (llv (⟨b', rfl, sq_of hb'⟩ : isL K (isN (falls k o')) (.ref b') H') (lv 5)), fun hc H3 e3 => ?_, fun hc H3 e3 => ?_⟩
    · cases hf : falls k o' with
      | nil => rw [hf] at hc; simp at hc
      | cons g gs =>
        obtain ⟨g1, g2, g3, g4⟩ := falls_cons hk hV' hf true
        generalize hpk : pick true g gs = pk at g1 g2 g3 g4
        rw [hf] at hb'
        have hat := pick_last g gs
        rw [hpk] at hat
        have hq3 := e3 _ _ hq'
        have ha3 := e3 _ _ ha'
        have hb3 := e3 _ _ hb'
        have hbl : isL K (isN (g :: gs)) (.ref b') H3 := ⟨b', rfl, sq_of hb3⟩
        refine vs_set (i := 4) sc47.nd (ve_ixL (llv hbl (lv 5)) (ve_sub (ve_len B.len (llv hbl (lv 5))) ve_int) hat) fun v4 H4 e4 ev4 => ?_
        cases ev4
        refine vs_app (e4 _ _ hq3) (lv 2) (lv 4 : VE _ _ _ _ (.int (pk : Int))) stb_is (by rw [List.length_map]; omega) fun v5 H5 e5 ev5 => ?_
        have eH : Ex H (upd H5 q (.lst (isN acc ++ [v5]))) := Ex.mut (((e.trans e3).trans e4).trans e5) hq0
        have ha5 : (upd H5 q (.lst (isN acc ++ [v5]))) a' = some (.lst (isI o')) := by rw [upd_ne haq]; exact e5 _ _ (e4 _ _ ha3)
        have hq5 : (upd H5 q (.lst (isN acc ++ [v5]))) q = some (.lst (isN (acc ++ [pk]))) := by rw [upd_same, show v5 = _ from ev5]; simp [isN]
        generalize upd H5 q (.lst (isN acc ++ [v5])) = H6 at eH ha5 hq5
        refine vs_set (i := 3) sc47.nd (vn_call D1 (hr.mono (by decide)) (va3 (pv (stb_P _ _ _ eH hv) (lv 0)) (llv (⟨a', rfl, sq_of ha5⟩ : isL K (isI o') (.ref a') H6) (lv 3)) (lv 4) stb_P stb_isL stb_is) (P := newL H6 (isI (stepL k o' pk))) (by
          rintro _ H7 e7 ⟨x, y, _, rfl, hx, hy, rfl⟩
          exact ⟨_, ⟨x, y, k, o', pk, rfl, hx, hy, VL.len hV', g1, hn7, hr2, rfl⟩, fun u H8 e8 eu => eu.back e7⟩)) fun a2 H7 e7 ha2 => ?_
        obtain ⟨a2, rfl, ha20, ha2⟩ := ha2
        have hq7 := e7 _ _ hq5
        have e17 := eH.trans e7
        refine vs_lcR1 (i := 4) (iy := 5) (z := (k.steps : Int)) (fun D j acc H' => acc = isN ((List.range j).filter (crossedB k (stepL k o' pk)))) sc47.nd B.range (vn_call D0 (hr.mono (by decide)) (va1 (pv (stb_P _ _ _ e17 hv) (lv 0)) stb_P) (by
          rintro _ H2 e2 ⟨x, rfl, hx⟩
          exact ⟨_, ⟨x, k, rfl, hx, hn, rfl⟩, fun u H3 e3 eu => eu⟩)) (by omega) (blkOk_by (own := [("_law_step_here", 4)]) (N := ["_law_pair", "_law_order_here_here", "_law_found", "_law_left", "_law_step_here", "_law_crossed_here"]) (sc := defScope (top 47)) (by decide +kernel)) (fun _ _ _ _ _ => pg_name (i := 4) sc47.nd rfl (Or.inl rfl)) (fun _ => rfl) (fun _ _ _ _ => rfl) ?_ ?_ rfl
        · intro D j acc H' hD e hd hj hR
          subst hR
          have hv' := stb_P _ _ _ (e17.trans e) hv
          have hu' : isL K (isI (stepL k o' pk)) (.ref a2) H' := ⟨a2, rfl, sq_of (e _ _ ha2)⟩
          refine ⟨crossedB k (stepL k o' pk) j, Is (.int (j : Int)), fun _ _ _ _ _ => vts_one (vt_val (vn_call D2 (hr.mono (by decide)) (va3 (pv hv' (lv 0)) (llv hu' (lv 3)) (lv 4) stb_P stb_isL stb_is) (by
            rintro _ H1 e1 ⟨x, y, _, rfl, hx, hy, rfl⟩
            exact ⟨_, ⟨x, y, k, _, j, rfl, hx, hy, VL.len g3, by omega, rfl⟩, fun u H2 e2 eu => eu⟩))), fun hc => ⟨fun _ _ _ _ _ => lv 4, fun v1 H1 _ ev => ?_⟩, fun hc H1 _ => ?_⟩
          · rw [show v1 = _ from ev, filter_succ, hc, if_pos rfl]
            simp [isN]
          · rw [filter_succ, hc]
            simp
        · rintro _ H8 e8 ⟨b2, acc2, rfl, hb20, hb2, hR⟩
          rw [Int.toNat_natCast] at hR
          have hb2 : H8 b2 = some (.lst (isN (falls k (stepL k o' pk)))) := by rw [hb2, hR]; rfl
          refine vs_nil ⟨crs k (stepL k o' pk), by omega, acc ++ [pk], a2, b2, stepL k o' pk, _, rfl, e17.trans e8, e8 _ _ hq7, Ne.symm (ne_of_none hq5 ha20), e8 _ _ ha2, Ne.symm (ne_of_none hq7 hb20), hb2, g3, ?_, by rw [List.length_append, List.length_singleton]; omega, rfl⟩
          rw [← hd, desc_cons hk hV' hf true, List.append_assoc, hpk]
          rfl
    · have hf : falls k o' = [] := by
        cases hf : falls k o' with
        | nil => rfl
        | cons g gs => rw [hf] at hc; simp at hc
      refine vs_ret (vn_rev (llv (⟨q, rfl, sq_of (e3 _ _ hq')⟩ : isL K (isN acc) (.ref q) H3) (lv 2))) fun v4 H4 e4 h => ⟨(e.trans e3).trans e4, ?_⟩
      have hacc : acc = desc k true (crs k o) o := by
        rw [← hd, desc_nil true hf, List.append_nil]
      obtain ⟨z, rfl, hz0, hz⟩ := h.back (e.trans e3)
      refine ⟨z, rfl, hz0, ?_⟩
      rw [hz, hacc]
      unfold C47.rowOf
      rw [isN, isN, List.map_reverse]
end
end W47
namespace W47
open PySem PySem.Spec PyProof.Rows L2 Evl C47
/-! ### sum(range(n)) -/
section
variable {X : Cx} {σ : L2.St} {H : Hp} {a e : Expr} {p pos : Pos} {te : L2.St → Hp → (Int → Int → Hp → Prop) → Prop}
theorem pe_sumRg (hc : X.calm = true) (hg : Gl X "sum") (hm : X.mg "sum" = none) (he : PRg X e te) (na : starEach [e] X.env = (false, eval e X.env) :: starEach [] X.env := by rfl) : PE X (.Call (.Name "sum" p) [e] [] pos) (fun σ H Q => te σ H fun a b H1 => RgOk a b ∧ Q (.int (preSum (fun i => a + (i : Nat) * 1) (b - a).toNat)) H1) := by
  refine ⟨fun pins s σ H Q I h => ?_⟩
  refine Call_ (ld_blt I hg hm (u := .builtin "sum") (by decide +kernel) (PyProof.Rows.callWith_builtin1 (args_cons (thn (he pins s σ H _ I h) fun x s1 ⟨r, a, b, t, u, v, H1, ex, hr, I1, ok, q⟩ => args_nil ?_) na) na))
  subst ex
  obtain ⟨b1, b2, b3, b4, b5⟩ := ok
  refine call_sum_walkG (wpAny_pyIter_range hr (small_one b1 b2 b3 b4) ?_)
  rw [rangeSize_nat]
  refine ⟨_, _, _, _, _, _, fun i => a + (i : Nat) * 1, rfl, Walks.range (A := X.A.in1) (I1.ok.hd hc) s1.heap.objs.size a 1 (b - a).toNat, ?_, fun c hc' => ?_, fun i v h => h, fun h' tk t' hk => ?_⟩
  · show IsRangeIter _ _ (a + ((0 : Nat) : Int) * 1) (((b - a).toNat : Int) - ((0 : Nat) : Int)) 1
    rw [show a + ((0 : Nat) : Int) * 1 = a by simp, show (((b - a).toNat : Int) - ((0 : Nat) : Int)) = ((b - a).toNat : Int) by simp]
    exact Heap.get?_push_size _ rfl
  · rw [List.mem_singleton.mp hc']
    show _ < (s1.heap.push _).objs.size
    rw [Heap.size_push]
    exact Nat.lt_succ_self _
  · refine ⟨.int _, H1, I1.kept fun c o e => hk c o (fun z => ?_) (Heap.get?_push_of_some _ e), ⟨_, rfl⟩, q⟩
    rw [List.mem_singleton.mp z] at e
    exact absurd (Heap.lt_size e) (Nat.lt_irrefl _)
theorem preSum_irange (n : Nat) : preSum (fun i => (0 : Int) + (i : Nat) * 1) n = (irange 0 n).sum := by
  induction n with
  | zero => rfl
  | succ n ih =>
    show preSum _ n + _ = _
    rw [ih]
    unfold irange
    rw [List.range_succ, List.map_append, List.sum_append]
    simp
theorem ve_sumR {n : Nat} {p2 p3 : Pos} (hm : X.mg "sum" = none) (hm2 : X.mg "range" = none) (ha : VE X a σ H (.int (n : Int))) (hn : n ≤ 1000) (hc : X.calm = true := by rfl) (hg : Gl X "sum" := by rfl) (hg2 : Gl X "range" := by rfl) (hs : starEach [a] X.env = (false, eval a X.env) :: starEach [] X.env := by rfl)
    (na : starEach [.Call (.Name "range" p2) [a] [] p3] X.env = (false, eval (.Call (.Name "range" p2) [a] [] p3) X.env) :: starEach [] X.env := by rfl) : VE X (.Call (.Name "sum" p) [.Call (.Name "range" p2) [a] [] p3] [] pos) σ H (.int (irange 0 n).sum) :=
  vn_by (pe_sumRg hc hg hm (prg_1 hg2 hm2 pe_any hs) na) fun H1 e1 Q q => ha H1 e1 _ fun v H2 e2 ev => ⟨n, ev, RgOk.of_le (by omega) (by omega) (by omega) (by omega), q _ H2 e2 (by rw [Int.sub_zero, Int.toNat_natCast, preSum_irange])⟩
end
end W47
namespace C47
/-! ### how far the places of an order go -/
def Big (B : Int) (o : List Int) : Prop := ∀ x ∈ o, -B ≤ x ∧ x ≤ B
theorem big_gi {B : Int} {o : List Int} (hB : 0 ≤ B) (h : Big B o) (i : Nat) : -B ≤ gi o i ∧ gi o i ≤ B := by
  by_cases hi : i < o.length
  · exact h _ (gi_mem hi)
  · unfold gi
    rw [List.getElem?_eq_none (by omega)]
    exact ⟨by show -B ≤ 0; omega, hB⟩
theorem big_set {B : Int} {o : List Int} {i : Nat} {v : Int} (h : Big B o) (hv : -B ≤ v ∧ v ≤ B) : Big B (o.set i v) := fun x hx => by
  rcases List.mem_or_eq_of_mem_set hx with q | q
  · exact h x q
  · rw [q]; exact hv
theorem big_mono {B B' : Int} {o : List Int} (h : Big B o) (hB : B ≤ B') : Big B' o := fun x hx => by have := h x hx; omega
theorem big_swap {B : Int} {o : List Int} {i : Nat} (hB : 0 ≤ B) (h : Big B o) : Big B (swapAt o i) := big_set (big_set h (big_gi hB h _)) (big_gi hB h _)
theorem big_step {B : Int} {k : Kd} {o : List Int} {g : Nat} (hB : 0 ≤ B) (h : Big B o) : Big (B + k.n) (stepL k o g) := by
  have hm : Big (B + k.n) o := big_mono h (by omega)
  have q := big_gi hB h
  unfold stepL
  split
  · split
    · have := q 0; exact big_set hm (by omega)
    · exact big_mono (big_swap hB h) (by omega)
  · split
    · have := q g; have := q 0; exact big_set (big_set hm (by omega)) (by omega)
    · exact big_mono (big_swap hB h) (by omega)
  · exact big_mono (big_swap hB h) (by omega)
theorem big_fold {k : Kd} : ∀ (r : List Nat) {B : Int} {o : List Int}, 0 ≤ B → Big B o → Big (B + r.length * k.n) (r.foldl (stepL k) o)
  | [], B, o, _, h => by simpa using h
  | g :: r, B, o, hB, h => by
    have := big_fold (k := k) r (B := B + k.n) (by omega) (big_step (k := k) (g := g) hB h)
    refine big_mono this ?_
    rw [List.length_cons]
    push_cast
    rw [Int.add_mul]
    omega
theorem big_made (k : Kd) (r : List Nat) : Big ((k.n : Int) + r.length * k.n) (made k r) := big_fold r (by omega) fun x hx => by
  obtain ⟨h1, h2⟩ := mem_irange.mp hx
  have : 0 ≤ k.first ∧ k.first ≤ 1 := by unfold Kd.first; split <;> omega
  omega
/-- few crossings, small places -/
theorem big_few {k : Kd} (hk : k.ok) {o : List Int} (v : VL k o) (hc : crs k o ≤ 10) (hn : k.n ≤ 5) : Big 60 o := by
  obtain ⟨h1, h2, h3⟩ := rowOf_ok hk false v
  rw [← h2]
  refine big_mono (big_made k _) ?_
  rw [h3]
  have : crs k o * k.n ≤ 10 * 5 := Nat.mul_le_mul hc hn
  have : ((crs k o : Int)) * (k.n : Int) ≤ 50 := by exact_mod_cast this
  omega
theorem crs_le {k : Kd} {M : Nat} : ∀ {o : List Int}, (∀ x ∈ o, ∀ y ∈ o, btw k x y ≤ M) → crs k o ≤ o.length * (o.length * M + 1)
  | [], _ => Nat.zero_le _
  | x :: l, h => by
    have ih := crs_le (k := k) (M := M) (o := l) fun a ha b hb => h a (List.mem_cons_of_mem _ ha) b (List.mem_cons_of_mem _ hb)
    have hs : ∀ l' : List Int, (∀ y ∈ l', btw k x y ≤ M) → (l'.map (btw k x)).sum ≤ l'.length * M := by
      intro l'
      induction l' with
      | nil => intro _; exact Nat.zero_le _
      | cons y l' ih =>
        intro h
        rw [List.map_cons, List.sum_cons, List.length_cons, Nat.add_mul]
        have := h y List.mem_cons_self
        have := ih fun z hz => h z (List.mem_cons_of_mem _ hz)
        omega
    have h1 := hs l fun y hy => h x List.mem_cons_self y (List.mem_cons_of_mem _ hy)
    have h2 : neg1 k x ≤ 1 := by unfold neg1; split <;> omega
    show (l.map (btw k x)).sum + neg1 k x + crs k l ≤ (l.length + 1) * ((l.length + 1) * M + 1)
    have h3 : l.length * (l.length * M + 1) ≤ l.length * ((l.length + 1) * M + 1) := Nat.mul_le_mul_left _ (by rw [Nat.add_mul]; omega)
    have h4 : (l.length + 1) * ((l.length + 1) * M + 1) = l.length * ((l.length + 1) * M + 1) + ((l.length + 1) * M + 1) := by rw [Nat.add_mul, Nat.one_mul]
    rw [h4]
    have h5 : (l.length + 1) * M = l.length * M + M := by rw [Nat.add_mul, Nat.one_mul]
    omega
/-- the law's word on the spread of a ring -/
def Near (k : Kd) (o : List Int) : Prop := k.nm = .ring → ∀ x ∈ o, ∀ y ∈ o, x - y ≤ 200
theorem near_crs {k : Kd} (hk : k.ok) {o : List Int} (v : VL k o) (hn : k.n ≤ 5) (h : Near k o) : crs k o ≤ 10000 := by
  have hb : ∀ x ∈ o, ∀ y ∈ o, btw k x y ≤ 200 := by
    intro x hx y hy
    unfold btw
    cases hnm : k.nm with
    | plain => show (if _ then _ else _) ≤ 200; split <;> omega
    | mirror => show (if _ then _ else _) + (if _ then _ else _) ≤ 200; split <;> split <;> omega
    | ring =>
      show ((y - x) / (k.n : Int)).natAbs ≤ 200
      have h1 := h hnm x hx y hy
      have h2 := h hnm y hy x hx
      have hk1 : 1 ≤ k.n := by unfold Kd.ok at hk; rw [hnm] at hk; have hk : 2 ≤ k.n := hk; omega
      have l1 : (y - x) / (k.n : Int) ≤ 200 := by
        have := Int.ediv_le_ediv (c := (k.n : Int)) (by omega) h2
        have h3 : (200 : Int) / (k.n : Int) ≤ 200 := Int.ediv_le_self _ (by omega)
        omega
      have l2 : -200 ≤ (y - x) / (k.n : Int) := by
        rw [Int.le_ediv_iff_mul_le (by omega)]
        have : -200 * (k.n : Int) ≤ -200 := by omega
        omega
      omega
  have := crs_le hb
  rw [VL.len v] at this
  have h1 : k.n * (k.n * 200 + 1) ≤ 5 * (5 * 200 + 1) := Nat.mul_le_mul hn (by omega)
  omega
theorem few_near {k : Kd} (hk : k.ok) {o : List Int} (v : VL k o) (hc : crs k o ≤ 10) (hn : k.n ≤ 5) : Near k o := fun _ x hx y hy => by
  have h1 := big_few hk v hc hn x hx
  have h2 := big_few hk v hc hn y hy
  omega
/-- the orders of a climb have no more crossings than the last -/
theorem up_crs {k : Kd} : ∀ {vs : List (List Int)} {w : List Int}, Up k vs → vs.getLast? = some w → ∀ v ∈ vs, crs k v ≤ crs k w
  | [], _, _, h, _, _ => by cases h
  | [u], w, _, h, v, hv => by
    cases h
    rw [List.mem_singleton.mp hv]
    exact Nat.le_refl _
  | u :: u' :: r, w, h, hl, v, hv => by
    have hl' : (u' :: r).getLast? = some w := by simpa [List.getLast?_cons_cons] using hl
    have ih := up_crs (k := k) (vs := u' :: r) h.2 hl'
    rcases List.mem_cons.mp hv with q | q
    · rw [q]
      have := ih u' List.mem_cons_self
      have := h.1.1
      omega
    · exact ih v q
theorem climb_few {k : Kd} {one other : List Int} {vs : List (List Int)} (h : IsClimb k one other vs) (hc : crs k other ≤ 10) : ∀ v ∈ vs, crs k v ≤ 10 := fun v hv => Nat.le_trans (up_crs h.2.2 h.2.1 v hv) hc
end C47
namespace W47
open PySem PySem.Spec PyProof.Rows L2 Evl C47
/-! ### xs + ys of any lists -/
def rCatS (K : PySem.W.Frag) : R2 := fun x y H Q => ∃ l b xs zs, x = .ref l ∧ y = .ref b ∧ SqL K H l xs ∧ SqL K H b zs ∧ xs.length + zs.length ≤ sizeLine ∧ ∀ p, H p = none → Q (.ref p) (upd H p (.lst (xs ++ zs)))
theorem op_catS {X : Cx} : OpR X (binaryOp .Add) (rCatS X.K) := by
  intro pins s σ H x y v u Q I rx ry h
  obtain ⟨l, b, xs, zs, rfl, rfl, hH, hB, hz, q⟩ := h
  cases rx
  cases ry
  obtain ⟨its, r, hl, z⟩ := I.list hH
  obtain ⟨its2, r2, hl2, z2⟩ := I.list hB
  obtain ⟨⟨cls, dd, data, sl⟩, n, ho, hc, hd, hda⟩ := hl
  obtain ⟨⟨cls2, dd2, data2, sl2⟩, n2, ho2, hc2, hd2, hda2⟩ := hl2
  simp only at hc hd hda hc2 hd2 hda2
  subst hc hd hda hc2 hd2 hda2
  have e : its.toArray ++ its2.toArray = (its ++ its2).toArray := by simp
  have l1 := r.length
  have l2 := r2.length
  refine concat_meets ⟨_, ho, rfl⟩ ⟨_, ho2, rfl⟩ noFill_list_add seq_list_add PySem.F.slot_list_add PySem.F.entry_list_add (PySem.F.args_list_add_2 _ _) (list_addW l b its.toArray its2.toArray n n2 none none sl sl2 (by rw [List.size_toArray, List.size_toArray]; omega)) ⟨ho, ho2, ?_⟩
  rw [e]
  exact ⟨.ref _, _, I.lnew (t' := s.toks) (r.append r2) (by rw [List.length_append]; omega), rfl, q _ I.fresh⟩
theorem vn_catS {X : Cx} {σ : L2.St} {H : Hp} {a b : Expr} {pos : Pos} {xs ys : List V} (ha : VN X a σ H (isL X.K xs)) (hb : VN X b σ H (isL X.K ys)) (hl : xs.length + ys.length ≤ 100000) : VN X (.BinOp a .Add b pos) σ H (newL H (xs ++ ys)) :=
  vn_op op_catS ha hb stb_isL fun x y H1 e1 ⟨p, ex, hp⟩ ⟨q, ey, hq⟩ Q k => ⟨p, q, xs, ys, ex, ey, hp, hq, sz_of hl, fun l hl => k _ _ (Ex.new hl) ⟨l, rfl, fresh_back e1 hl, upd_same⟩⟩
open Classical in
/-- the law's word on an item -/
noncomputable def lordB (k : Kd) (d : PyData) : Bool := decide (∃ o, d = dL o ∧ VL k o ∧ Near k o)
theorem lordB_iff {k : Kd} {d : PyData} : lordB k d = true ↔ ∃ o, d = dL o ∧ VL k o ∧ Near k o := by unfold lordB; exact @decide_eq_true_iff _ (Classical.propDecidable _)
theorem lordB_no {k : Kd} {d : PyData} (h : ¬ ∃ o, d = dL o ∧ VL k o ∧ Near k o) : lordB k d = false := by
  cases e : lordB k d with
  | false => rfl
  | true => exact absurd (lordB_iff.mp e) h
theorem bl_iff {a b : Bool} (h : a = true ↔ b = true) : V.bl a = V.bl b := by rw [Bool.eq_iff_iff.mpr h]
theorem exists_max : ∀ (l : List Int), l ≠ [] → ∃ m, m ∈ l ∧ ∀ y ∈ l, y ≤ m
  | [], h => absurd rfl h
  | [x], _ => ⟨x, List.mem_singleton.mpr rfl, fun y hy => by rw [List.mem_singleton.mp hy]; exact Int.le_refl _⟩
  | x :: y :: l, _ => by
    obtain ⟨m, h1, h2⟩ := exists_max (y :: l) (by simp)
    by_cases h : x ≤ m
    · refine ⟨m, List.mem_cons_of_mem _ h1, fun z hz => ?_⟩
      rcases List.mem_cons.mp hz with q | q
      · rw [q]; exact h
      · exact h2 z q
    · refine ⟨x, List.mem_cons_self, fun z hz => ?_⟩
      rcases List.mem_cons.mp hz with q | q
      · rw [q]; exact Int.le_refl _
      · have := h2 z q; omega
theorem exists_min (l : List Int) (h : l ≠ []) : ∃ m, m ∈ l ∧ ∀ y ∈ l, m ≤ y := by
  obtain ⟨m, h1, h2⟩ := exists_max (l.map (- ·)) (by simpa using h)
  obtain ⟨x, hx, e⟩ := List.mem_map.mp h1
  refine ⟨x, hx, fun y hy => ?_⟩
  have := h2 (-y) (List.mem_map_of_mem hy)
  omega
/-- plain: the places' own values, by way of abs and min -/
theorem plain_abs {n : Nat} {o : List Int} {m : Int} (h1 : m ∈ o ++ [0]) (h2 : ∀ y ∈ o ++ [0], m ≤ y) : ((o.map absI).Perm (irange 0 n) ∧ m = 0) ↔ o.Perm (irange 0 n) := by
  have key : (∀ x ∈ o, 0 ≤ x) → o.map absI = o := fun h => by
    have : ∀ l : List Int, (∀ x ∈ l, 0 ≤ x) → l.map absI = l := by
      intro l
      induction l with
      | nil => intro _; rfl
      | cons x l ih =>
        intro h
        rw [List.map_cons, ih fun y hy => h y (List.mem_cons_of_mem _ hy)]
        have := h x List.mem_cons_self
        unfold absI
        rw [if_neg (by omega)]
    exact this o h
  constructor
  · rintro ⟨p, rfl⟩
    rwa [key fun x hx => h2 x (List.mem_append_left _ hx)] at p
  · intro p
    have nn : ∀ x ∈ o, 0 ≤ x := fun x hx => (mem_irange.mp (p.mem_iff.mp hx)).1
    refine ⟨by rw [key nn]; exact p, ?_⟩
    have := h2 0 (by simp)
    rcases List.mem_append.mp h1 with q | q
    · have := nn m q; omega
    · exact List.mem_singleton.mp q
section
variable {P : Program} {w : World} {K : PySem.W.Frag} {mg : Str → Option Value} {base : Heap} {C : Addr}
abbrev prLOH (K : PySem.W.Frag) : Pr := fun vs H P => ∃ v u k d, vs = [v, u] ∧ PAt k v H ∧ Dp K H u d ∧ ItD d ∧ k.ok ∧ k.n ≤ 7 ∧ P = Is (.bl (lordB k d))
theorem sc50 : FnScope ["_law_pair", "_law_value", "_law_size", "_law_item"] ["_law_pair", "_law_value"] (defScope (top 50)) := ⟨rfl, rfl, rfl, by decide +kernel, rfl, by decide +kernel, by decide +kernel⟩
theorem df_loh (F : FnP K mg "_law_order_here" (top 50)) (B : Bl mg) (D0 : DF P w K mg base "_law_start" 1 ["_law_pair"] (spOf prLStart)) : DF P w K mg base "_law_order_here" 2 ["_law_pair", "_law_value"] (spOf (prLOH K)) := by
  refine df_mk F sc50 (fun vs H P ⟨v, u, k, d, e, _⟩ => by rw [e]; rfl) (fun _ _ _ _ _ _ us hl => match us, hl with | [_, _], _ => rfl) ?_
  rintro f cdv A outer s H vs R E hr ⟨v, u, k, d, rfl, hv, hu, hd, hk, hn7, rfl⟩
  obtain ⟨hn, hr2⟩ := ok_n hk
  have hu64 := hr.units
  -- what is no list
  have other : ∀ {U : String}, TyX K H u (.type U) → kitB U "list" = some false → lordB k d = false →
      VS (cx P w K mg base ["_law_pair", "_law_value", "_law_size", "_law_item"] "_law_order_here" (defScope (top 50)) f cdv A outer s H E) (defBody (top 50)) (en H (Is (.bl (lordB k d)))) (L2.start ["_law_pair", "_law_value", "_law_size", "_law_item"] [v, u]) H := fun {U} ty hkit ho =>
    vs_ifret (c := true) (P := Is (.bl (lordB k d))) (VT.to (vw_or (c' := false) (vt_not (vt_val (ve_isi (T := "list") B.isi (lv 1) (ve_bty B.list (by decide +kernel)) ty hkit))) fun h => by cases h).t rfl) (fun _ => VE.to ve_bl (by rw [ho])) (fun _ v2 H2 e2 p => ⟨e2, p⟩) fun h => by cases h
  rcases hd with rfl | ⟨i, rfl⟩ | ⟨ds, rfl, hfl⟩ | ⟨ds, rfl, hfl⟩
  · cases hu
    exact other (.base .non) (by decide +kernel) (lordB_no (by rintro ⟨o, h, _⟩; cases h))
  · cases hu
    exact other (.base (.int i)) (by decide +kernel) (lordB_no (by rintro ⟨o, h, _⟩; cases h))
  · cases hu with
    | lst hs ha =>
      rename_i a xs
      obtain ⟨hx, rfl⟩ := flat_dp ha hfl
      have ty := tyX_L hs
      have hval : ∀ {σ' H' pos}, Ex H H' → σ'[1]? = some (some (.ref a)) → VN (cx P w K mg base ["_law_pair", "_law_value", "_law_size", "_law_item"] "_law_order_here" (defScope (top 50)) f cdv A outer s H E) (.Name "_law_value" pos) σ' H' (isL K xs) := fun {σ' H' pos} e h => llv (X := cx P w K mg base ["_law_pair", "_law_value", "_law_size", "_law_item"] "_law_order_here" (defScope (top 50)) f cdv A outer s H E) (⟨a, rfl, ex_l e hs⟩ : isL K xs (.ref a) H') (lv 1 h)
      by_cases hlen : xs.length = k.n
      · have hflat : ∀ x ∈ (xs.take xs.length).filter (fun x => !wholeB x), flat2 x := fun x h => hx x (by rw [List.take_length] at h; exact (List.mem_filter.mp h).1)
        have test : VT (cx P w K mg base ["_law_pair", "_law_value", "_law_size", "_law_item"] "_law_order_here" (defScope (top 50)) f cdv A outer s H E) (match (defBody (top 50)).getD 0 (.Pass ⟨0, 0, 0, 0⟩) with
            | .If c _ _ _ => c
            | _ => .Constant .none 0 ⟨0, 0, 0, 0⟩) (L2.start ["_law_pair", "_law_value", "_law_size", "_law_item"] [v, .ref a]) H (!decide (((xs.take xs.length).filter fun x => !wholeB x).map toD = [])) := by
          refine VT.to (vw_or (c := !true) (c' := false || !decide (((xs.take xs.length).filter fun x => !wholeB x).map toD = [])) (vt_not (vt_val (ve_isi (T := "list") B.isi (lv 1) (ve_bty B.list (by decide +kernel)) ty (by decide +kernel)))) fun _ => vw_or (c := false) (VT.to (vt_ne (ve_len B.len (hval (Ex.refl H) rfl)) (ve_p1 (pv hv (lv 0)))) ?_) fun _ => vw_or1 (vt_ne0 (N := 0) hu64 ((vn_lcL (i := 3) (fun D j acc H' => acc = (xs.take j).filter fun x => !wholeB x) sc50.nd (hval (Ex.refl H) rfl) (by omega) (blkOk_by (own := [("_law_item", 3)]) (N := ["_law_pair", "_law_value", "_law_size", "_law_item"]) (sc := defScope (top 50)) (by decide +kernel)) (fun _ _ _ _ _ => pg_name (i := 3) sc50.nd rfl (Or.inl rfl)) (fun _ => rfl) (fun _ _ _ _ => rfl) ?_).imp fun v' H' _ ⟨D, acc, e, _, hd, ha'⟩ => ?_) ?_)).t ?_
          · rw [dec_intV, hlen, decide_eq_true rfl]; rfl
          · intro D j x acc H' hD e hd hj hR
            subst hR
            have hxj := hx x (List.mem_of_getElem? hj)
            have htk : (xs.take (j + 1)).filter (fun x => !wholeB x) = (xs.take j).filter (fun x => !wholeB x) ++ if (!wholeB x) = true then [x] else [] := by
              rw [List.take_succ, hj, List.filter_append]
              cases h : wholeB x <;> simp [h]
            refine ⟨!wholeB x, Is x, fun _ _ _ _ _ => vts_one ?_, fun hc => ⟨fun _ _ _ _ _ => lv 3, fun v1 H2 _ ev => ?_⟩, fun hc H2 _ => ?_⟩
            · rcases hxj with ⟨i, rfl⟩ | ⟨b, rfl⟩
              · exact VT.to (VW.t (vw_or (vt_val (ve_isi (T := "bool") B.isi (lv 3) (ve_bty B.bool (by decide +kernel)) (.base (.int i)) (c := false) (by decide +kernel))) fun _ => vw_or1 (vt_not (vt_val (ve_isi (T := "int") B.isi (lv 3) (ve_bty B.int (by decide +kernel)) (.base (.int i)) (c := true) (by decide +kernel)))))) rfl
              · exact VT.to (VW.t (vw_or (c' := false) (vt_val (ve_isi (T := "bool") B.isi (lv 3) (ve_bty B.bool (by decide +kernel)) (.base (.bl b)) (c := true) (by decide +kernel))) fun h => by cases h)) rfl
            · rw [show v1 = x from ev, htk, if_pos hc]
            · rw [htk, if_neg (by rw [hc]; decide), List.append_nil]
          · subst e ha'
            exact Dp.lst (sq_of hd) (dp_flat hflat)
          · intro d hd
            obtain ⟨x, hx', rfl⟩ := List.mem_map.mp hd
            rcases hflat x hx' with ⟨i, rfl⟩ | ⟨b, rfl⟩
            · exact sh_int i
            · exact sh_bool b
          · cases decide (((xs.take xs.length).filter fun x => !wholeB x).map toD = []) <;> rfl
        rw [List.take_length] at test
        refine vs_ifret (P := Is (.bl (lordB k (.list (xs.map toD))))) test (fun hc => VE.to ve_bl ?_) (fun _ v2 H2 e2 p => ⟨e2, p⟩) fun hc H2 e2 => ?_
        · have hne : (xs.filter fun x => !wholeB x) ≠ [] := fun z => by rw [z] at hc; cases hc
          obtain ⟨x, hx'⟩ := List.exists_mem_of_ne_nil _ hne
          obtain ⟨h1, h2⟩ := List.mem_filter.mp hx'
          have h2 : wholeB x = false := by cases h : wholeB x <;> simp [h] at h2 ⊢
          have nw := not_whole ⟨x, h1, h2⟩
          refine congrArg V.bl (lordB_no ?_).symm
          rintro ⟨o, e, _⟩
          have e' := asO_dL o
          rw [← e] at e'
          rw [show asO (.list (xs.map toD)) = intsOf (xs.map toD) from rfl, nw] at e'
          cases e'
        · have hnil : (xs.filter fun x => !wholeB x) = [] := by
            cases h : xs.filter fun x => !wholeB x with
            | nil => rfl
            | cons y ys => rw [h] at hc; simp at hc
          have hwh : ∀ x ∈ xs, wholeB x = true := fun x hx' => by
            have := List.filter_eq_nil_iff.mp hnil x hx'
            cases h : wholeB x <;> simp [h] at this ⊢
          obtain ⟨o, rfl⟩ := all_whole hwh
          rw [isI_len] at hlen
          have hO : PyData.list ((isI o).map toD) = dL o := by simp [isI, toD]
          rw [hO]
          have lIff : lordB k (dL o) = true ↔ VL k o ∧ Near k o := by
            rw [lordB_iff]
            constructor
            · rintro ⟨o', e, h⟩
              rw [dL_inj e]; exact h
            · exact fun h => ⟨o, rfl, h⟩
          have hone : o ≠ [] := fun z => by rw [z] at hlen; have : 0 = k.n := hlen; omega
          have hv2 := stb_P _ _ _ e2 hv
          refine vs_set (i := 2) sc50.nd (ve_p1 (pv hv2 (lv 0))) fun _ H3 e3 ev => ?_
          cases ev
          have hv3 := stb_P _ _ _ e3 hv2
          have e23 := e2.trans e3
          refine vs_if (c := decide (k.nm = .ring)) (vt_rin (pv hv3 (lv 0))) (fun hp H4 e4 => ?_) fun hp H4 e4 => ?_
          · have hp : k.nm = .ring := of_decide_eq_true hp
            have e24 := e23.trans e4
            obtain ⟨M, m1, m2⟩ := exists_max o hone
            obtain ⟨m, m3, m4⟩ := exists_min o hone
            refine vs_ifret (c := decide (200 < M - m)) (P := Is (.bl (lordB k (dL o)))) (vt_gt (ve_sub (ve_maxL B.max (hval e24 rfl) m1 m2) (ve_minL B.min (hval e24 rfl) m3 m4)) ve_int) (fun hc => VE.to ve_bl (bl_iff ?_)) (fun _ v5 H5 e5 p => ⟨e24.trans e5, p⟩) fun hc H5 e5 => ?_
            · have hc := of_decide_eq_true hc
              refine ⟨fun z => absurd z Bool.false_ne_true, fun h => ?_⟩
              have := (lIff.mp h).2 hp M m1 m m3
              omega
            · have hc := of_decide_eq_false hc
              have hnear : Near k o := fun _ x hx y hy => by
                have := m2 x hx
                have := m4 y hy
                omega
              have e25 := e24.trans e5
              refine vs_ret (P := Is (.bl (lordB k (dL o)))) (VE.to (ve_and (ve_sortEq (o := o.map fun x => x % (k.n : Int)) hu64 B.sorted ?_ ((vn_listR1 B.list B.range (lv 2) (by omega)).imp fun _ _ _ h => h.l) (by rw [List.length_map]; omega) (by rw [Int.toNat_natCast]; exact irange_lt _ _)) fun _ => ve_one (ve_eq (ve_sum B.sum (hval e25 rfl)) (ve_sumR B.sum B.range (lv 2) (by omega)))) (bl_iff ?_)) fun v6 H6 e6 p => ⟨e25.trans e6, p⟩
              · refine (vn_lcL (i := 3) (fun D j acc H' => acc = isI ((o.take j).map fun x => x % (k.n : Int))) sc50.nd (hval e25 rfl) (by rw [isI_len]; omega) (blkOk_by (own := [("_law_item", 3)]) (N := ["_law_pair", "_law_value", "_law_size", "_law_item"]) (sc := defScope (top 50)) (by decide +kernel)) (fun _ _ _ _ _ => pg_name (i := 3) sc50.nd rfl (Or.inl rfl)) (fun _ => rfl) (fun _ _ _ _ => rfl) ?_).imp fun v' H' _ ⟨D, acc, e, _, hd, ha'⟩ => ⟨D, e, sq_of (by rw [hd, ha', isI_len, List.take_length])⟩
                intro D j x acc H' hD e hd hj hR
                subst hR
                obtain ⟨hjl, rfl⟩ := isI_get hj
                refine ⟨true, Is (.int (gi o j % (k.n : Int))), fun _ _ _ _ _ => vts_nil, fun _ => ⟨fun _ _ _ _ _ => ve_mod (by omega) (ve_inti B.int (lv 3)) (lv 2), fun v1 H5 _ ev => ?_⟩, fun h => by cases h⟩
                rw [show v1 = _ from ev]
                exact isI_take_succ (fun x => x % (k.n : Int)) o j hjl
              · rw [Int.toNat_natCast, dec_intV, Bool.and_eq_true, permB_iff, decide_eq_true_iff, lIff]
                unfold VL
                rw [hp]
                exact ⟨fun h => ⟨h, hnear⟩, fun h => h.1⟩
          · have hp : ¬ k.nm = .ring := of_decide_eq_false hp
            refine vs_nil ?_
            have e24 := e23.trans e4
            have hv4 := stb_P _ _ _ e4 hv3
            have hnear : Near k o := fun z => absurd z hp
            obtain ⟨m, m3, m4⟩ := exists_min (o ++ [0]) (by simp)
            have hst : (k.start).Pairwise (· < ·) := irange_lt _ _
            refine vs_ret (P := Is (.bl (lordB k (dL o)))) (VE.to (y := .bl (lordB k (dL o))) (ve_and (c' := decide (k.nm = .mirror) || decide (m = 0)) (ve_sortEq (o := o.map absI) (r := k.start) hu64 B.sorted ?_ (vn_call D0 (hr.mono (by decide)) (va1 (pv hv4 (lv 0)) stb_P) (by
              rintro _ H5 e5 ⟨x, rfl, hx⟩
              exact ⟨_, ⟨x, k, rfl, hx, hn7, rfl⟩, fun u H6 e6 eu => eu.l⟩)) (by rw [List.length_map]; omega) hst) fun _ => ve_one (ve_or (ve_mir (pv hv4 (lv 0))) fun hm => ve_one (VE.to (ve_eq (ve_minL B.min (ns := o ++ [0]) ?_ m3 m4) ve_int) (by rw [dec_intV])))) (bl_iff ?_)) fun v6 H6 e6 p => ⟨e24.trans e6, p⟩
            · refine (vn_lcL (i := 3) (fun D j acc H' => acc = isI ((o.take j).map absI)) sc50.nd (hval e24 rfl) (by rw [isI_len]; omega) (blkOk_by (own := [("_law_item", 3)]) (N := ["_law_pair", "_law_value", "_law_size", "_law_item"]) (sc := defScope (top 50)) (by decide +kernel)) (fun _ _ _ _ _ => pg_name (i := 3) sc50.nd rfl (Or.inl rfl)) (fun _ => rfl) (fun _ _ _ _ => rfl) ?_).imp fun v' H' _ ⟨D, acc, e, _, hd, ha'⟩ => ⟨D, e, sq_of (by rw [hd, ha', isI_len, List.take_length])⟩
              intro D j x acc H' hD e hd hj hR
              subst hR
              obtain ⟨hjl, rfl⟩ := isI_get hj
              refine ⟨true, Is (.int (absI (gi o j))), fun _ _ _ _ _ => vts_nil, fun _ => ⟨fun _ _ _ _ _ => ve_abs B.abs (lv 3), fun v1 H5 _ ev => ?_⟩, fun h => by cases h⟩
              rw [show v1 = _ from ev]
              exact isI_take_succ absI o j hjl
            · exact (vn_catS (xs := isI o) (ys := isI [0]) (hval e24 rfl) ((vn_lst (va1 (ve_int (i := 0)) stb_is) (fun _ _ _ _ h => h) fun vs _ ⟨_, e, _⟩ => by rw [e]; simp).imp fun v' H' _ ⟨q, xs, e, _, hq, x, ex, ev⟩ => ⟨q, e, sq_of (by rw [hq, ex, show x = _ from ev]; rfl)⟩) (by rw [isI_len]; simp; omega)).imp fun v' H' _ h => by
                rw [isI, isI, ← List.map_append] at h
                exact h.l
            · rw [Bool.and_eq_true, permB_iff, Bool.or_eq_true, decide_eq_true_iff, decide_eq_true_iff, lIff]
              have hpl := plain_abs (n := k.n) m3 m4
              unfold VL Kd.start Kd.first
              cases hkn : k.nm with
              | ring => exact absurd hkn hp
              | mirror => exact ⟨fun h => ⟨h.1, hnear⟩, fun h => ⟨h.1, .inl rfl⟩⟩
              | plain =>
                constructor
                · rintro ⟨h1, h2⟩
                  refine ⟨hpl.mp ⟨h1, ?_⟩, hnear⟩
                  rcases h2 with q | q
                  · cases q
                  · exact q
                · rintro ⟨h1, _⟩
                  have := hpl.mpr h1
                  exact ⟨this.1, .inr this.2⟩
      · refine vs_ifret (c := true) (P := Is (.bl (lordB k (.list (xs.map toD))))) (VT.to (vw_or (c := !true) (c' := true || false) (vt_not (vt_val (ve_isi (T := "list") B.isi (lv 1) (ve_bty B.list (by decide +kernel)) ty (by decide +kernel)))) fun _ => vw_or (c := true) (VT.to (vt_ne (ve_len B.len (hval (Ex.refl H) rfl)) (ve_p1 (pv hv (lv 0)))) ?_) fun h => by cases h).t rfl) (fun _ => VE.to ve_bl ?_) (fun _ v2 H2 e2 p => ⟨e2, p⟩) fun h => by cases h
        · rw [dec_intV, decide_eq_false (by omega)]; rfl
        · refine congrArg V.bl (lordB_no ?_).symm
          rintro ⟨o, e, hV, _⟩
          have e' := congrArg List.length (PyData.list.inj e)
          rw [List.length_map, List.length_map, VL.len hV] at e'
          exact hlen e'
  · cases hu with
    | tup hs ha => exact other (tyX_T hs) (by decide +kernel) (lordB_no (by rintro ⟨o, h, _⟩; cases h))
end
end W47
namespace W47
open PySem PySem.Spec PyProof.Rows L2 Evl C47
theorem cut_take' (l : List Nat) (i : Nat) (h : i ≤ l.length) : cutV (isN l) none (some (i : Int)) = isN (l.take i) := cut_take l i h
theorem dLL_sh (os : List (List Int)) : Sh 2 (dLL os) := sh_list fun d hd => by
  obtain ⟨o, _, rfl⟩ := List.mem_map.mp hd
  exact sh_dL o
theorem any_dL (o : List Int) : ∀ os : List (List Int), ((os.map dL).any fun z => PyData.eqv z (dL o)) = decide (o ∈ os)
  | [] => by simp
  | x :: os => by
    rw [List.map_cons, List.any_cons, any_dL o os, eqv_dL]
    by_cases h1 : x = o
    · subst h1; simp
    · rw [decide_eq_false h1, Bool.false_or]
      refine decide_eq_decide.mpr ⟨fun h => List.mem_cons_of_mem _ h, fun h => ?_⟩
      rcases List.mem_cons.mp h with q | q
      · exact absurd q.symm h1
      · exact q
theorem isLL_get {K : PySem.W.Frag} {H : Hp} {p : Addr} {ps : List Addr} {os : List (List Int)} (h : Paired (fun a o => SqL K H a (isI o)) ps os) (i : Nat) (hi : i < os.length) : ∃ a, ps[i]? = some a ∧ SqL K H a (isI os[i]) := by
  have hl : ps.length = os.length := paired_len h
  obtain ⟨o, h1, h2⟩ := paired_get h (i := i) (List.getElem?_eq_getElem (by omega))
  rw [List.getElem?_eq_getElem hi] at h1
  cases h1
  exact ⟨_, List.getElem?_eq_getElem (by omega), h2⟩
section
variable {P : Program} {w : World} {K : PySem.W.Frag} {mg : Str → Option Value} {base : Heap} {C : Addr}
/-- _law_nexts -/
abbrev prLNx (K : PySem.W.Frag) : Pr := fun vs H P => ∃ v u k row, vs = [v, u] ∧ PAt k v H ∧ isL K (isN row) u H ∧ C47.Row k row ∧ k.ok ∧ k.n ≤ 7 ∧ row.length ≤ 20000 ∧ P = newLL H (delsOf k row)
theorem sc52 : FnScope ["_law_pair", "_law_row_here", "_law_at"] ["_law_pair", "_law_row_here"] (defScope (top 52)) := ⟨rfl, rfl, rfl, by decide +kernel, rfl, by decide +kernel, by decide +kernel⟩
theorem df_lnx (F : FnP K mg "_law_nexts" (top 52)) (B : Bl mg) (D2 : DF P w K mg base "_law_made" 2 ["_law_pair", "_law_row_here"] (spOf (prLMade K))) : DF P w K mg base "_law_nexts" 3 ["_law_pair", "_law_row_here"] (spOf (prLNx K)) := by
  refine df_mk F sc52 (fun vs H P ⟨v, u, k, o, e, _⟩ => by rw [e]; rfl) (fun _ _ _ _ _ _ us hl => match us, hl with | [_, _], _ => rfl) ?_
  rintro f cdv A outer s H vs R E hr ⟨v, u, k, row, rfl, hv, hrl, r1, hk, hn7, hrlen, rfl⟩
  refine vs_ret (vn_lcR1 (i := 2) (fun D j acc H' => ∃ ps : List (Addr × List Int), acc = rfs ps ∧ ps.map (·.2) = (List.range j).map (fun i => made k (delAt row i)) ∧ ∀ q ∈ ps, q.1 ≠ D ∧ H q.1 = none ∧ H' q.1 = some (.lst (isI q.2))) sc52.nd B.range (ve_len B.len (llv hrl (lv 1))) (by rw [List.length_map]; omega)
    (blkOk_by (own := [("_law_at", 2)]) (N := ["_law_pair", "_law_row_here", "_law_at"]) (sc := defScope (top 52)) (by decide +kernel)) (fun _ _ _ _ _ => pg_name (i := 2) sc52.nd rfl (Or.inl rfl)) (fun _ => rfl) (fun D H2 _ _ => ⟨[], rfl, rfl, fun q h => by cases h⟩) ?_) ?_
  · intro D j acc H' hD e hd hj hR
    obtain ⟨ps, rfl, h1, h2⟩ := hR
    rw [List.length_map] at hj
    have hjl : j < row.length := by omega
    have hv' := stb_P _ _ _ e hv
    have hrl' := stb_isL _ _ _ e hrl
    refine ⟨true, newL H' (isI (made k (delAt row j))), fun _ _ _ _ _ => vts_nil, fun _ => ⟨fun _ _ _ _ _ => vn_call D2 (hr.mono (by decide)) (va2 (pv hv' (lv 0)) (vn_cat (xs := isN (row.take j)) (ys := isN (row.drop (j + 1))) ((vn_sl (llv hrl' (lv 1)) po_none (po_some pe_any) eo_none ((lv 2 : VE _ _ _ _ (.int (j : Int))).ev)).imp fun _ _ _ h => ?_) ((vn_sl (llv hrl' (lv 1)) (po_some pe_any) po_none ((ve_add (lv 2) ve_int : VE _ _ _ _ (.int ((j : Int) + 1))).ev) eo_none).imp fun _ _ _ h => ?_) ?_) stb_P stb_newL) ?_, fun v1 H2 e2 hv1 => ?_⟩, fun h => by cases h⟩
    · rw [cut_take row j (by omega)] at h; exact h.t
    · rw [show (j : Int) + 1 = ((j + 1 : Nat) : Int) by omega, cut_drop row (j + 1) (by omega)] at h; exact h.t
    · simp [isN]; omega
    · rintro _ H2 e2 ⟨x, y, rfl, hx, hy⟩
      refine ⟨_, ⟨x, y, k, delAt row j, rfl, hx, ?_, delAt_row r1 j, hk, hn7, rfl⟩, fun u H3 e3 eu => eu.back e2⟩
      have : isN (row.take j) ++ isN (row.drop (j + 1)) = isN (delAt row j) := by unfold delAt; rw [isN, isN, isN, List.map_append]
      rw [this] at hy
      exact hy.l
    · obtain ⟨z, rfl, hz0, hz⟩ := hv1
      have hzD : z ≠ D := fun q => by rw [q, hd] at hz0; cases hz0
      refine ⟨ps ++ [(z, made k (delAt row j))], by simp [rfs], by rw [List.map_append, h1, range_map_succ]; rfl, fun q hq => ?_⟩
      rcases List.mem_append.mp hq with hq | hq
      · obtain ⟨g1, g2, g3⟩ := h2 q hq
        exact ⟨g1, g2, by rw [upd_ne g1]; exact e2 _ _ g3⟩
      · rw [List.mem_singleton.mp hq]
        exact ⟨hzD, fresh_back e hz0, by rw [upd_ne hzD]; exact hz⟩
  · rintro v2 H2 e2 ⟨D, acc, rfl, hD, hd, ps, rfl, hm, hps⟩
    rw [List.length_map, Int.toNat_natCast] at hm
    have hm : ps.map (·.2) = delsOf k row := hm
    refine ⟨e2, D, ps.map (·.1), rfl, hD, by rw [hd, List.map_map]; rfl, ?_⟩
    rw [← hm]
    exact paired_of ps fun q hq => ⟨(hps q hq).2.1, (hps q hq).2.2⟩
/-- _law_is_climb -/
abbrev prLIC (K : PySem.W.Frag) : Pr := fun vs H P => ∃ v u1 u2 u3 k o1 o2 d, vs = [v, u1, u2, u3] ∧ PAt k v H ∧ isL K (isI o1) u1 H ∧ isL K (isI o2) u2 H ∧ crs k o2 ≤ 10 ∧ k.ok ∧ k.n ≤ 5 ∧ VDp K H u3 d ∧ P = Is (.bl (clB k o1 o2 d))
theorem sc51 : FnScope ["_law_pair", "_law_one", "_law_other", "_law_value", "_law_at", "_law_row_here", "_law_item"] ["_law_pair", "_law_one", "_law_other", "_law_value"] (defScope (top 51)) := ⟨rfl, rfl, rfl, by decide +kernel, rfl, by decide +kernel, by decide +kernel⟩
theorem df_lic (F : FnP K mg "_law_is_climb" (top 51)) (B : Bl mg) (D2 : DF P w K mg base "_law_order_here" 2 ["_law_pair", "_law_value"] (spOf (prLOH K))) (D3 : DF P w K mg base "_law_least" 2 ["_law_pair", "_law_order_here_here"] (spOf (prLLe K))) (D4 : DF P w K mg base "_law_nexts" 3 ["_law_pair", "_law_row_here"] (spOf (prLNx K))) : DF P w K mg base "_law_is_climb" 4 ["_law_pair", "_law_one", "_law_other", "_law_value"] (spOf (prLIC K)) := by
  refine df_mk F sc51 (fun vs H P ⟨v, u1, u2, u3, k, o1, o2, d, e, _⟩ => by rw [e]; rfl) (fun _ _ _ _ _ _ us hl => match us, hl with | [_, _, _, _], _ => rfl) ?_
  rintro f cdv A outer s H vs R E hr ⟨v, u1, u2, u3, k, o1, o2, d, rfl, hv, hu1, hu2, hc10, hk, hn5, hd, rfl⟩
  obtain ⟨hn, hr2⟩ := ok_n hk
  have hn7 : k.n ≤ 7 := by omega
  have hu64 := hr.units
  have hu65 : (cx P w K mg base ["_law_pair", "_law_one", "_law_other", "_law_value", "_law_at", "_law_row_here", "_law_item"] "_law_is_climb" (defScope (top 51)) f cdv A outer s H E).A.units + 65 < cLine := by have := hr.un; omega
  have other : ∀ {U : String}, TyX K H u3 (.type U) → kitB U "list" = some false → clB k o1 o2 d = false →
      VS (cx P w K mg base ["_law_pair", "_law_one", "_law_other", "_law_value", "_law_at", "_law_row_here", "_law_item"] "_law_is_climb" (defScope (top 51)) f cdv A outer s H E) (defBody (top 51)) (en H (Is (.bl (clB k o1 o2 d)))) (L2.start ["_law_pair", "_law_one", "_law_other", "_law_value", "_law_at", "_law_row_here", "_law_item"] [v, u1, u2, u3]) H := fun {U} ty hkit ho =>
    vs_ifret (c := true) (P := Is (.bl (clB k o1 o2 d))) (VT.to (vw_or (c' := false) (vt_not (vt_val (ve_isi (T := "list") B.isi (lv 3) (ve_bty B.list (by decide +kernel)) ty hkit))) fun h => by cases h).t rfl) (fun _ => VE.to ve_bl (by rw [ho])) (fun _ v2 H2 e2 p => ⟨e2, p⟩) fun h => by cases h
  cases hd with
  | non => exact other (.base .non) (by decide +kernel) (clB_no (by rintro ⟨vs, h, _⟩; cases h))
  | dic h => exact other (U := "dict") (.base (.dK h)) (by decide +kernel) (clB_no (by rintro ⟨vs, h, _⟩; cases h))
  | tup h => cases h with
    | tup hs ha => exact other (tyX_T hs) (by decide +kernel) (clB_no (by rintro ⟨vs, h, _⟩; cases h))
  | lst h hi hl =>
    rename_i ds
    cases h with
    | lst hs ha =>
    rename_i a xs
    obtain ⟨zs, rfl, rfl, hz⟩ := dpall_zip ha
    rw [List.length_map] at hl
    have ty := tyX_L hs
    have hval : ∀ {σ' H' pos}, Ex H H' → σ'[3]? = some (some (.ref a)) → VN (cx P w K mg base ["_law_pair", "_law_one", "_law_other", "_law_value", "_law_at", "_law_row_here", "_law_item"] "_law_is_climb" (defScope (top 51)) f cdv A outer s H E) (.Name "_law_value" pos) σ' H' (isL K (zs.map (·.1))) := fun {σ' H' pos} e h => llv (X := cx P w K mg base ["_law_pair", "_law_one", "_law_other", "_law_value", "_law_at", "_law_row_here", "_law_item"] "_law_is_climb" (defScope (top 51)) f cdv A outer s H E) (⟨a, rfl, ex_l e hs⟩ : isL K (zs.map (·.1)) (.ref a) H') (lv 3 h)
    have hval2 : ∀ {σ' H' pos}, Ex H H' → σ'[3]? = some (some (.ref a)) → VN (cx P w K mg base ["_law_pair", "_law_one", "_law_other", "_law_value", "_law_at", "_law_row_here", "_law_item"] "_law_is_climb" (defScope (top 51)) f cdv A outer s H E) (.Name "_law_value" pos) σ' H' (isD K (.list (zs.map (·.2)))) := fun {σ' H' pos} e h => (hval e h).imp fun u H2 e2 ⟨q, eq, hq⟩ => by
      subst eq
      exact Dp.lst hq (dpall_of fun z hz' => Dp.mono (e.trans e2) (hz z hz'))
    refine vs_ifret (c := decide (zs.map (·.2) = []) || !decide ((zs.filter fun z => !lordB k z.2).map (·.2) = [])) (P := Is (.bl (clB k o1 o2 (.list (zs.map (·.2)))))) (VT.to (vw_or (c := !true) (c' := decide (zs.map (·.2) = []) || !decide ((zs.filter fun z => !lordB k z.2).map (·.2) = [])) (vt_not (vt_val (ve_isi (T := "list") B.isi (lv 3) (ve_bty B.list (by decide +kernel)) ty (by decide +kernel)))) fun _ => vw_or (vt_eq0 (N := 1) hu64 (hval2 (Ex.refl _) rfl) fun d hd => sh_it (hi d hd)) fun _ => vw_or1 (vt_ne0 (N := 1) hu64 ((vn_lcL (i := 6) (fun D j acc H' => acc = ((zs.take j).filter fun z => !lordB k z.2).map (·.1)) sc51.nd (hval (Ex.refl _) rfl) (by rw [List.length_map]; omega)
      (blkOk_by (own := [("_law_item", 6)]) (N := ["_law_pair", "_law_one", "_law_other", "_law_value", "_law_at", "_law_row_here", "_law_item"]) (sc := defScope (top 51)) (by decide +kernel)) (fun _ _ _ _ _ => pg_name (i := 6) sc51.nd rfl (Or.inl rfl)) (fun _ => rfl) (fun _ _ _ _ => rfl) ?_).imp fun v' H' e' ⟨D, acc, e, _, hd', ha'⟩ => ?_) fun d hd => ?_)).t rfl) (fun hc => VE.to ve_bl ?_) (fun _ v2 H2 e2 p => ⟨e2, p⟩) fun hc H2 e2 => ?_
    · intro D j x acc H' hD e hd' hj hR
      subst hR
      obtain ⟨hjl, ex⟩ := List.getElem?_eq_some_iff.mp hj
      rw [List.length_map] at hjl
      have ex : x = (zs[j]).1 := by rw [← ex, List.getElem_map]
      subst ex
      have hit := hz _ (List.getElem_mem hjl)
      refine ⟨!lordB k (zs[j]).2, Is (zs[j]).1, fun _ _ _ _ _ => vts_one (vt_not (vt_val (vn_call D2 (hr.mono (by decide)) (va2 (pv (stb_P _ _ _ e hv) (lv 0)) (lv 6) stb_P stb_is) (by
        rintro _ H7 e7 ⟨x, y, rfl, hx, rfl⟩
        exact ⟨_, ⟨x, _, k, _, rfl, hx, Dp.mono (e.trans e7) hit, hi _ (List.mem_map_of_mem (List.getElem_mem hjl)), hk, hn7, rfl⟩, fun u H8 e8 eu => eu⟩)))), fun hc => ⟨fun _ _ _ _ _ => lv 6, fun v1 H7 _ ev => ?_⟩, fun hc H7 _ => ?_⟩
      · show _ = ((zs.take (j + 1)).filter fun z => !lordB k z.2).map (·.1)
        rw [show v1 = _ from ev, filter_take_succ _ _ _ hjl, if_pos hc, List.map_append]
        rfl
      · show _ = ((zs.take (j + 1)).filter fun z => !lordB k z.2).map (·.1)
        rw [filter_take_succ _ _ _ hjl, if_neg (by rw [hc]; decide), List.append_nil]
    · subst e ha'
      rw [List.length_map, List.take_length] at hd'
      exact Dp.lst (sq_of hd') (dpall_of fun z hz' => Dp.mono e' (hz z (List.mem_filter.mp hz').1))
    · obtain ⟨z, hz', rfl⟩ := List.mem_map.mp hd
      exact sh_it (hi _ (List.mem_map_of_mem (List.mem_filter.mp hz').1))
    · refine congrArg V.bl (clB_no ?_).symm
      rintro ⟨vs, e, hV, hcl⟩
      have e : zs.map (·.2) = vs.map dL := PyData.list.inj e
      rcases Bool.or_eq_true_iff.mp hc with q | q
      · rw [of_decide_eq_true q] at e
        cases vs with
        | nil => cases hcl.1
        | cons _ _ => cases e
      · have q : ¬ (zs.filter fun z => !lordB k z.2).map (·.2) = [] := fun z => by rw [decide_eq_true z] at q; cases q
        refine q ?_
        rw [List.map_eq_nil_iff, List.filter_eq_nil_iff]
        intro z hz'
        have : z.2 ∈ vs.map dL := by rw [← e]; exact List.mem_map_of_mem hz'
        obtain ⟨o, ho, eo⟩ := List.mem_map.mp this
        rw [← eo, lordB_iff.mpr ⟨o, rfl, hV o ho, few_near hk (hV o ho) (climb_few hcl hc10 o ho) hn5⟩]
        decide
    · obtain ⟨c1, c2⟩ := Bool.or_eq_false_iff.mp hc
      have c1 : ¬ zs.map (·.2) = [] := of_decide_eq_false c1
      have c2 : (zs.filter fun z => !lordB k z.2).map (·.2) = [] := by
        cases h : decide ((zs.filter fun z => !lordB k z.2).map (·.2) = []) with
        | true => exact of_decide_eq_true h
        | false => rw [h] at c2; cases c2
      rw [List.map_eq_nil_iff, List.filter_eq_nil_iff] at c2
      have hall : ∀ d ∈ zs.map (·.2), lordB k d = true := fun d hd => by
        obtain ⟨z, hz', rfl⟩ := List.mem_map.mp hd
        have := c2 z hz'
        cases h : lordB k z.2 with
        | true => rfl
        | false => rw [h] at this; exact absurd rfl this
      obtain ⟨os, eos, hV⟩ := all_ord (k := k) (ds := zs.map (·.2)) fun d hd => by
        obtain ⟨o, e, h1, _⟩ := lordB_iff.mp (hall d hd)
        exact ordB_iff.mpr ⟨o, e, h1⟩
      have hN : ∀ o ∈ os, crs k o ≤ 10000 := fun o ho => by
        obtain ⟨o', e, h1, h2⟩ := lordB_iff.mp (hall (dL o) (by rw [eos]; exact List.mem_map_of_mem ho))
        rw [dL_inj e]
        exact near_crs hk h1 hn5 h2
      have hzl : zs.length = os.length := by have := congrArg List.length eos; simpa using this
      have hpos : 0 < os.length := by
        have : zs ≠ [] := fun z => c1 (by rw [z]; rfl)
        have := List.length_pos_iff.mpr this
        omega
      rw [eos]
      have hzo : ∀ i (hi' : i < os.length) {H'}, Ex H H' → isL K (isI os[i]) (zs[i]'(by omega)).1 H' := fun i hi' {H'} e => by
        have h := Dp.mono e (hz _ (List.getElem_mem (show i < zs.length by omega)))
        have : (zs[i]'(by omega)).2 = dL os[i] := by
          have q : (zs.map (·.2))[i]? = (os.map dL)[i]? := by rw [eos]
          rw [List.getElem?_map, List.getElem?_map, List.getElem?_eq_getElem (by omega), List.getElem?_eq_getElem hi'] at q
          exact Option.some.inj q
        rw [this] at h
        exact dp_il h
      have atz : ∀ i (hi' : i < os.length), atI (zs.map (·.1)) (i : Int) = some (zs[i]'(by omega)).1 := fun i hi' => by
        refine atI_nat ?_
        rw [List.getElem?_map, List.getElem?_eq_getElem (by omega)]; rfl
      have hne : os ≠ [] := List.length_pos_iff.mp hpos
      have hu12 := stb_isL _ _ _ e2 hu1
      have hu22 := stb_isL _ _ _ e2 hu2
      have cl0 : ∀ {x : Bool}, (clB k o1 o2 (dLL os) = true ↔ x = true) → V.bl x = V.bl (clB k o1 o2 (dLL os)) := fun {x} h => bl_iff h.symm
      have clI : clB k o1 o2 (dLL os) = true ↔ IsClimb k o1 o2 os := by
        rw [clB_iff]
        constructor
        · rintro ⟨vs, e, _, h⟩
          rw [dLL_inj e]; exact h
        · exact fun h => ⟨os, rfl, hV, h⟩
      have hd0 : os.head? = some (os[0]) := by rw [List.head?_eq_getElem?, List.getElem?_eq_getElem hpos]
      have hdl : os.getLast? = some (os[os.length - 1]) := by rw [List.getLast?_eq_getElem?, List.getElem?_eq_getElem (by omega)]
      have atl : atI (zs.map (·.1)) (((zs.map (·.1)).length : Int) - 1) = some (zs[os.length - 1]'(by omega)).1 := by
        have e0 : (((zs.map (·.1)).length : Int) - 1) = ((os.length - 1 : Nat) : Int) := by rw [List.length_map]; omega
        rw [e0]
        exact atz _ (by omega)
      refine vs_ifret (c := !decide (os[0] = o1) || !decide (os[os.length - 1] = o2)) (P := Is (.bl (clB k o1 o2 (dLL os)))) (vw_or (vt_neL hu64 ((ve_ixL (hval e2 rfl) ve_int (atz 0 hpos)).imp fun v3 H3 e3 ev => ?_) (llv hu12 (lv 1))) fun _ => vw_or1 (vt_neL hu64 ((ve_ixL (hval e2 rfl) (ve_sub (ve_len B.len (hval e2 rfl)) ve_int) atl).imp fun v3 H3 e3 ev => ?_) (llv hu22 (lv 2)))).t (fun hc2 => VE.to ve_bl (cl0 ?_)) (fun _ v3 H3 e3 p => ⟨e2.trans e3, p⟩) fun hc2 H3 e3 => ?_
      · rw [show v3 = _ from ev]; exact hzo 0 hpos (e2.trans e3)
      · rw [show v3 = _ from ev]; exact hzo _ (by omega) (e2.trans e3)
      · rw [clI]
        refine ⟨fun ⟨g1, g2, _⟩ => ?_, fun h => by cases h⟩
        rw [hd0] at g1
        rw [hdl] at g2
        rw [Option.some.inj g1, Option.some.inj g2] at hc2
        simp at hc2
      · have q1 : os[0] = o1 := by
          refine Decidable.byContradiction fun z => ?_
          rw [decide_eq_false z] at hc2
          cases hc2
        have q2 : os[os.length - 1] = o2 := by
          refine Decidable.byContradiction fun z => ?_
          rw [decide_eq_false z, Bool.or_eq_false_iff] at hc2
          cases hc2.2
        have g1 : os.head? = some o1 := by rw [hd0, q1]
        have g2 : os.getLast? = some o2 := by rw [hdl, q2]
        have li := law_iff hk hV
        have e23 := e2.trans e3
        refine vs_forR2 (i := 4) (lo := 1) (z := ((zs.map (·.1)).length : Int)) sc51.nd B.range ve_int (ve_len B.len (hval e23 rfl)) (by rw [List.length_map]; omega) (fun j σ' H' => ∃ c1 c2, σ' = [some v, some u1, some u2, some (.ref a), c1, c2, none] ∧ Ex H H' ∧ ∀ i (h : i + 1 < os.length), i < j → (C47.rowOf k true os[i + 1]).length = (C47.rowOf k true os[i]).length + 1 ∧ os[i] ∈ delsOf k (C47.rowOf k true os[i + 1])) (fun H4 e4 => ⟨none, none, rfl, e23.trans e4, fun i h hj => by omega⟩) ?_ ?_
        · rintro j σ' H' hj ⟨c1', c2', rfl, e, hP⟩
          rw [List.length_map] at hj
          have hjo : j + 1 < os.length := by omega
          have a1 : atI (zs.map (·.1)) (1 + (j : Int) - 1) = some (zs[j]'(by omega)).1 := by
            rw [show (1 + (j : Int) - 1) = (j : Int) by omega]; exact atz j (by omega)
          have a2 : atI (zs.map (·.1)) (1 + (j : Int)) = some (zs[j + 1]'(by omega)).1 := by
            rw [show (1 + (j : Int)) = ((j + 1 : Nat) : Int) by omega]; exact atz (j + 1) hjo
          have hvj := hV _ (List.getElem_mem (show j < os.length by omega))
          have hvj1 := hV _ (List.getElem_mem hjo)
          have hcj := hN _ (List.getElem_mem (show j < os.length by omega))
          have hcj1 := hN _ (List.getElem_mem hjo)
          have hva : isL K (zs.map (·.1)) (.ref a) H' := ⟨a, rfl, ex_l e hs⟩
          have rj := rowOf_ok hk true hvj
          have rj1 := rowOf_ok hk true hvj1
          refine vs_set (i := 5) sc51.nd (vn_call D3 (hr.mono (by decide)) (va2 (P2 := isL K (isI os[j + 1])) (pv (stb_P _ _ _ e hv) (lv 0)) ((ve_ixL (llv hva (lv 3)) (lv 4) a2).imp fun v7 H7 e7 ev => ?_) stb_P stb_isL) (P := newL H' (isN (C47.rowOf k true os[j + 1]))) (by
            rintro _ H7 e7 ⟨x, y, rfl, hx, hy⟩
            exact ⟨_, ⟨x, y, k, _, rfl, hx, hy, hvj1, hk, hn7, by omega, rfl⟩, fun u H8 e8 eu => eu.back e7⟩)) fun rv H4 e4 hrv => ?_
          · rw [show v7 = _ from ev]; exact hzo (j + 1) hjo (e.trans e7)
          have e04 := e.trans e4
          have hva4 := stb_isL _ _ _ e4 hva
          have hrl4 : isL K (isN (C47.rowOf k true os[j + 1])) rv H4 := hrv.l
          refine vs_ifret (c := !decide ((C47.rowOf k true os[j + 1]).length = (C47.rowOf k true os[j]).length + 1) || !decide (os[j] ∈ delsOf k (C47.rowOf k true os[j + 1]))) (P := Is (.bl (clB k o1 o2 (dLL os)))) (vw_or (VT.to (vt_ne (ve_len B.len (llv hrl4 (lv 5))) (ve_add (ve_len (xs := isN (C47.rowOf k true os[j])) B.len (vn_call D3 (hr.mono (by decide)) (va2 (P2 := isL K (isI os[j])) (pv (stb_P _ _ _ e04 hv) (lv 0)) ((ve_ixL (llv hva4 (lv 3)) (ve_sub (lv 4) ve_int) a1).imp fun v7 H7 e7 ev => ?_) stb_P stb_isL) (by
            rintro _ H7 e7 ⟨x, y, rfl, hx, hy⟩
            exact ⟨_, ⟨x, y, k, _, rfl, hx, hy, hvj, hk, hn7, by omega, rfl⟩, fun u H8 e8 eu => eu.l⟩))) ve_int)) ?_) fun _ => vw_or1 (VT.to (vt_notIn (d := dL os[j]) (ds := (delsOf k (C47.rowOf k true os[j + 1])).map dL) hu65 ((ve_ixL (llv hva4 (lv 3)) (ve_sub (lv 4) ve_int) a1).imp fun v7 H7 e7 ev => ?_) (vn_call D4 hr (va2 (pv (stb_P _ _ _ e04 hv) (lv 0)) (llv hrl4 (lv 5)) stb_P stb_isL) (by
            rintro _ H7 e7 ⟨x, y, rfl, hx, hy⟩
            exact ⟨_, ⟨x, y, k, _, rfl, hx, hy, rj1.1, hk, hn7, by omega, rfl⟩, fun u H8 e8 eu => eu.l.d⟩)) (sh_dL _).s (dLL_sh _).s) (by rw [any_dL]))).t (fun hc3 => VE.to ve_bl (cl0 ?_)) (fun _ v5 H5 e5 p => ⟨e04.trans e5, p⟩) fun hc3 H5 e5 => vs_nil ⟨_, _, rfl, e04.trans e5, fun i h hij => ?_⟩
          · rw [show v7 = _ from ev]; exact hzo j (by omega) (e04.trans e7)
          · rw [dec_intV, List.length_map, List.length_map]
            congr 1
            exact decide_eq_decide.mpr ⟨fun h => by omega, fun h => by omega⟩
          · rw [show v7 = _ from ev]; exact (hzo j (by omega) (e04.trans e7)).d
          · rw [clI]
            refine ⟨fun hcl => ?_, fun h => by cases h⟩
            have := li.mpr hcl.2.2 j hjo
            rw [decide_eq_true this.1, decide_eq_true this.2] at hc3
            cases hc3
          · rcases Nat.lt_succ_iff_lt_or_eq.mp hij with q | q
            · exact hP i h q
            · subst q
              obtain ⟨z1, z2⟩ := Bool.or_eq_false_iff.mp hc3
              exact ⟨Decidable.byContradiction fun q => (by rw [decide_eq_false q] at z1; cases z1), Decidable.byContradiction fun q => (by rw [decide_eq_false q] at z2; cases z2)⟩
        · rintro σ' H' ⟨c1', c2', rfl, e, hP⟩
          refine vs_ret (P := Is (.bl (clB k o1 o2 (dLL os)))) (VE.to ve_bl (cl0 ?_)) fun v5 H5 e5 p => ⟨e.trans e5, p⟩
          rw [clI]
          refine ⟨fun _ => rfl, fun _ => ⟨g1, g2, li.mp fun i h => hP i h ?_⟩⟩
          rw [List.length_map]
          omega
end
end W47
namespace W47
open PySem PySem.Spec PyProof.Rows L2 Evl C47
section
variable {X : Cx} {σ : L2.St} {H H' : Hp} {a b e l t elt : Expr} {es : List Expr} {ifs : List Expr} {scope : Scope} {pos p : Pos} {n : Str} {Q Q0 : VK} {QA : List V → Hp → Prop} {QB : Bool → Hp → Prop} {st : Stmt} {rest body orelse : List Stmt} {D : Ends}
/-! ### statements and expressions, from where we stand -/
theorem ge_mono (h : anyE X e σ H Q0) (i : ∀ v H', Q0 v H' → Q v H') : anyE X e σ H Q := ⟨fun σ H Q => ∃ Q0, anyE X e σ H Q0 ∧ ∀ v H', Q0 v H' → Q v H', ⟨fun pins s σ H Q I ⟨Q0, h, i⟩ => thn (pe_any.run pins s σ H Q0 I h) fun v s' ⟨x, H', I', r, q⟩ => ⟨x, H', I', r, i _ _ q⟩⟩, Q0, h, i⟩
theorem gs_set {i : Nat} {p' : Pos} (hN : X.N.Nodup) (he : anyE X e σ H fun v H1 => VS X rest D (σ.set i (some v)) H1) (hi : X.N[i]? = some n := by rfl) (hx : Loc X.env.scope n := by first | exact Or.inl rfl | exact Or.inr rfl)
    (hs : swapsWith e (some (.Name n p')) pos.line X.env = pure false := by rfl) (hf : X.fn n = true ∨ X.env.scope.names.lookup n = some .local := by first | exact .inl rfl | exact .inr rfl) : VS X (.Assign [.Name n p'] e pos :: rest) D σ H :=
  vs_cons (ps_set hN hi hx pe_any hs hf) he
theorem gs_ret (he : anyE X e σ H D.rt) : VS X (.Return (some e) pos :: rest) D σ H := vs_cons (ps_ret pe_any) he
theorem ge_if (h : anyT X t σ H fun c H1 => if c = true then anyE X a σ H1 Q else anyE X b σ H1 Q) : anyE X (.IfExp t a b pos) σ H Q := ⟨_, pe_ifExp pt_any pe_any pe_any, by
  obtain ⟨t1, h1, h2⟩ := h
  exact ⟨t1, h1, h2⟩⟩
/-- a == b, of an int and an int -/
theorem gt_eqI (h : anyE X a σ H fun x H1 => anyE X b σ H1 fun y H2 => ∃ i j : Int, x = .int i ∧ y = .int j ∧ QB (decide (i = j)) H2) (hm : behindInMarks .Eq b = false) : anyT X (.Compare a [.Eq] [b] pos) σ H QB :=
  ⟨_, pt_cmpR op_eq pe_any pe_any hm, ge_mono h fun x H1 h => ge_mono h fun y H2 ⟨i, j, ex, ey, q⟩ => by
    subst ex ey
    exact ⟨rfl, _, rfl, by rw [dec_intV]; exact q⟩⟩
/-- [e for x in range(z) if ..] -/
theorem ge_lcR1 {i : Nat} {p' pr pc : Pos} (hN : X.N.Nodup) (hm : X.mg "range" = none) (ok : BlkOk X.N X.env.scope scope [(n, i)]) (hgn : BK X scope fun Y => PG Y (.Name n p') (gName i)) (hw : ∀ x, wipe ((wipe σ [i]).set i (some x)) [i] = wipe σ [i])
    (ha : anyE X a σ H fun v H1 => ∃ z : Nat, v = .int (z : Int) ∧ z ≤ 40000 ∧ ∀ D, H1 D = none → ∃ Inv : Nat → Hp → Prop, Inv 0 (upd H1 D (.lst [])) ∧
      (∀ j H', j < z → Inv j H' → bkT X scope ifs ((wipe σ [i]).set i (some (.int (j : Int)))) H' fun c H3 => if c = true then bkE X scope elt ((wipe σ [i]).set i (some (.int (j : Int)))) H3 fun y H4 => ∃ acc, H4 D = some (.lst acc) ∧ acc.length < 50000 ∧ Inv (j + 1) (upd H4 D (.lst (acc ++ [y]))) else Inv (j + 1) H3) ∧
      ∀ H', Inv z H' → Q (.ref D) H')
    (hc : X.calm = true := by rfl) (hg : Gl X "range" := by rfl) (hst : starEach [a] X.env = [(false, eval a X.env)] := by rfl) (hit : ∀ x, foldedSetIterable (.Call (.Name "range" pr) [a] [] pc) X.env x = pure x := by intro _; rfl) :
    anyE X (.ListComp elt [⟨.Name n p', .Call (.Name "range" pr) [a] [] pc, ifs, 0⟩] scope pos) σ H Q := by
  refine ⟨_, pe_lc (own := [(n, i)]) hc hN (pi_range1 hg hm pa_any hst) ok hgn pts_bk pe_bk hit, ga_cons (ge_mono ha ?_) (by rw [hst]; rfl)⟩
  rintro v H1 ⟨z, rfl, hz, h⟩
  refine ga_nil ⟨(z : Int), rfl, by omega, by omega, fun D hD => ?_⟩
  obtain ⟨Inv, h0, hs, hd⟩ := h D hD
  refine lc_range (lo := 0) (n := ((z : Int)).toNat) Inv h0 (fun j H' hj q => ?_) fun H' q => hd H' (by rwa [Int.toNat_natCast] at q)
  have e0 : (0 : Int) + (j : Int) = (j : Int) := Int.zero_add _
  show wipe ((wipe σ [i]).set i (some (.int ((0 : Int) + (j : Int))))) [i] = wipe σ [i] ∧ bkT X scope ifs ((wipe σ [i]).set i (some (.int ((0 : Int) + (j : Int))))) H' _
  rw [e0]
  refine ⟨hw _, ?_⟩
  intro s Hs C cl fp
  obtain ⟨t1, g1, g2⟩ := hs j H' (by omega) q s Hs C cl fp
  refine ⟨fun σ2 H2 QB => ∃ Q1, (∃ t, PTs _ ifs t ∧ t σ2 H2 Q1) ∧ ∀ c H3, Q1 c H3 → QB c H3, ⟨fun pins s' σ' H' Q I ⟨Q1, ⟨t, h1, h2⟩, i1⟩ => thn (h1.run pins s' σ' H' Q1 I h2) fun c s3 ⟨H3, I3, q3⟩ => ⟨H3, I3, i1 _ _ q3⟩⟩, _, ⟨t1, g1, g2⟩, ?_⟩
  rintro c H3 q3
  cases c with
  | false => exact q3
  | true =>
    intro s Hs C cl fp
    exact ge_mono (q3 s Hs C cl fp) fun y H4 ⟨acc, k1, k2, k3⟩ => ⟨acc, k1, sz_lt (by omega), k3⟩
/-- [e for x in xs if ..] -/
theorem ge_lcL {xs : List V} {i : Nat} {p' : Pos} {u : Addr} (hN : X.N.Nodup) (ok : BlkOk X.N X.env.scope scope [(n, i)]) (hgn : BK X scope fun Y => PG Y (.Name n p') (gName i)) (hw : ∀ x, wipe ((wipe σ [i]).set i (some x)) [i] = wipe σ [i])
    (ha : VE X l σ H (.ref u)) (hu : SqL X.K H u xs)
    (h : ∀ D H1, Ex H H1 → H1 D = none → ∃ Inv : Nat → Hp → Prop, Inv 0 (upd H1 D (.lst [])) ∧ (∀ j H', j ≤ xs.length → Inv j H' → SqL X.K H' u xs) ∧
      (∀ j x H', xs[j]? = some x → Inv j H' → bkT X scope ifs ((wipe σ [i]).set i (some x)) H' fun c H3 => if c = true then bkE X scope elt ((wipe σ [i]).set i (some x)) H3 fun y H4 => ∃ acc, H4 D = some (.lst acc) ∧ acc.length < 50000 ∧ Inv (j + 1) (upd H4 D (.lst (acc ++ [y]))) else Inv (j + 1) H3) ∧
      ∀ H', Inv xs.length H' → Q (.ref D) H')
    (hc : X.calm = true := by rfl) (hit : ∀ x, foldedSetIterable l X.env x = pure x := by intro _; rfl) :
    anyE X (.ListComp elt [⟨.Name n p', l, ifs, 0⟩] scope pos) σ H Q := by
  refine ⟨_, pe_lc (own := [(n, i)]) hc hN (pi_list pe_any) ok hgn pts_bk pe_bk hit, ha.here fun v H1 e1 ev => ?_⟩
  refine ⟨u, ev, ⟨xs, ex_l e1 hu⟩, fun D hD => ?_⟩
  obtain ⟨Inv, h0, hl, hs, hd⟩ := h D H1 e1 hD
  refine lc_list (K := X.K) (a := u) (xs := xs) Inv h0 hl (fun j x H' hj q => ⟨hw x, ?_⟩) hd
  intro s Hs C cl fp
  obtain ⟨t1, g1, g2⟩ := hs j x H' hj q s Hs C cl fp
  refine ⟨fun σ2 H2 QB => ∃ Q1, (∃ t, PTs _ ifs t ∧ t σ2 H2 Q1) ∧ ∀ c H3, Q1 c H3 → QB c H3, ⟨fun pins s' σ' H' Q I ⟨Q1, ⟨t, h1, h2⟩, i1⟩ => thn (h1.run pins s' σ' H' Q1 I h2) fun c s3 ⟨H3, I3, q3⟩ => ⟨H3, I3, i1 _ _ q3⟩⟩, _, ⟨t1, g1, g2⟩, ?_⟩
  rintro c H3 q3
  cases c with
  | false => exact q3
  | true =>
    intro s Hs C cl fp
    exact ge_mono (q3 s Hs C cl fp) fun y H4 ⟨acc, k1, k2, k3⟩ => ⟨acc, k1, sz_lt (by omega), k3⟩
theorem gts_nil {Y : Cx} {QB : Bool → Hp → Prop} (h : QB true H) : ∃ t, PTs Y [] t ∧ t σ H QB := ⟨_, pts_nil, h⟩
theorem gts_one {Y : Cx} {QB : Bool → Hp → Prop} (h : anyT Y a σ H QB) : ∃ t, PTs Y [a] t ∧ t σ H QB := ⟨_, pts_one pt_any, h⟩
end
section
variable {P : Program} {w : World} {K : PySem.W.Frag} {mg : Str → Option Value} {base : Heap} {C : Addr}
abbrev DRand (P : Program) (w : World) (K : PySem.W.Frag) (mg : Str → Option Value) (base : Heap) : Prop := DF P w K mg base "_law_random" 2 ["_law_generator_here", "_law_bound"] spRand
/-- _law_row -/
def spLRow : Sp := fun vs H Q _ => ∃ (g : Addr) (v : V) (k : Kd) (m n : Nat), vs = [.ref g, v, .int (m : Int)] ∧ Gn g n H ∧ PAt k v H ∧ LK k ∧ m ≤ 10 ∧ n ≤ 800000 ∧ ∀ row a H', C47.Row k row → row.length ≤ m → Kp g H H' → Gn g (n + 11) H' → H a = none → H' a = some (.lst (isN row)) → Q (.ref a) H'
theorem sc46 : FnScope ["_law_generator_here", "_law_pair", "_law_most", "_law_turn"] ["_law_generator_here", "_law_pair", "_law_most"] (defScope (top 46)) := ⟨rfl, rfl, rfl, by decide +kernel, rfl, by decide +kernel, by decide +kernel⟩
theorem df_lrow (F : FnP K mg "_law_row" (top 46)) (B : Bl mg) (D0 : DF P w K mg base "_law_many" 1 ["_law_pair"] (spOf prMany)) (D1 : DRand P w K mg base) : DF P w K mg base "_law_row" 3 ["_law_generator_here", "_law_pair", "_law_most"] spLRow := by
  refine df_gen F sc46 (fun vs H Q E ⟨g, v, k, m, n, e, _⟩ => by rw [e]; rfl) (fun _ _ _ _ _ _ us hl => match us, hl with | [_, _, _], _ => rfl) ?_
  rintro f cdv A outer s H vs Q E hr ⟨g, v, k, m, n, rfl, hg, hv, ⟨hk, hn5, hrg⟩, hm, hn, q⟩
  obtain ⟨hn1, hr2⟩ := ok_n hk
  refine vs_ifret (c := decide (k.steps = 0)) (P := newL H []) (VT.to (vt_eq (vn_call D0 (hr.mono (by decide)) (va1 (pv hv (lv 1)) stb_P) (P := Is (.int (k.steps : Int))) (by
    rintro _ H1 e1 ⟨x, rfl, hx⟩
    exact ⟨_, ⟨x, k, rfl, hx, hn1, rfl⟩, fun u H2 e2 eu => eu⟩)) ve_int) (by rw [dec_intV]; exact decide_eq_decide.mpr ⟨fun h => by omega, fun h => by omega⟩)) (fun _ => vn_nil) (fun _ v1 H1 e1 ⟨a, ea, ha0, ha⟩ => by
      rw [ea]
      exact q [] a H1 (fun g h => by cases h) (Nat.zero_le _) (Kp.of e1) ((Gn.ex e1 hg).mono (by omega)) ha0 ha) fun hc H1 e1 => ?_
  have hst : 1 ≤ k.steps := by have := of_decide_eq_false hc; omega
  have hs5 : k.steps ≤ 5 := Nat.le_trans (steps_le k) hn5
  have hg1 := Gn.ex e1 hg
  have hv1 := stb_P _ _ _ e1 hv
  refine gs_ret (ge_lcR1 (i := 3) sc46.nd B.range (blkOk_by (own := [("_law_turn", 3)]) (N := ["_law_generator_here", "_law_pair", "_law_most", "_law_turn"]) (sc := defScope (top 46)) (by decide +kernel)) (fun _ _ _ _ _ => pg_name (i := 3) sc46.nd rfl (Or.inl rfl)) (fun _ => rfl) ?_)
  refine ge_call D1 hr ((va2 (lv 0 : VE _ _ _ _ (.ref g)) (ve_add (i := (m : Int)) (j := 1) (lv 2) ve_int) stb_is stb_is).here ?_)
  rintro _ H2 e2 ⟨_, _, rfl, rfl, rfl⟩
  refine ⟨g, (m : Int) + 1, n, rfl, Gn.ex e2 hg1, by omega, by omega, by omega, fun d H3 h0 h1 kp hg3 => ?_⟩
  obtain ⟨z, rfl⟩ : ∃ z : Nat, d = z := ⟨d.toNat, by omega⟩
  have kp3 : Kp g H H3 := (Kp.of (e1.trans e2)).trans kp
  refine ⟨z, rfl, by omega, fun D hD => ?_⟩
  have hDg : D ≠ g := Kp.ne hg3 hD
  have hD0 : H D = none := kp3.none' hg hg3 hD
  refine ⟨fun j H' => ∃ row, C47.Row k row ∧ row.length = j ∧ Kp g H H' ∧ Gn g (n + 1 + j) H' ∧ H' D = some (.lst (isN row)), ⟨[], (fun g h => by cases h), rfl, fun b o hb ho => ?_, ?_, upd_same⟩, ?_, ?_⟩
  · have : b ≠ D := fun z => by rw [z, hD0] at ho; cases ho
    rw [upd_ne this]
    exact kp3 b o hb ho
  · obtain ⟨x, sd, c, h1, h2⟩ := hg3
    exact ⟨x, sd, c, by rw [upd_ne (Ne.symm hDg)]; exact h1, h2⟩
  · rintro j H' hj ⟨row, r1, r2, r3, r4, r5⟩
    have hv' := hv.kp hg r3
    intro s Hs C cl fp
    refine gts_nil ?_
    show bkE _ _ _ _ _ _
    intro s Hs C cl fp
    show anyE _ _ _ _ _
    refine ge_call (k := 2) (sp := spRand) (ps := ["_law_generator_here", "_law_bound"]) ?d1 ?d2 ?d3
    case d1 => exact D1
    case d2 => exact hr
    refine VA.here (P := A2 (Is (.ref g)) (Is (.int (k.steps : Int)))) ?d4 ?d5
    case d4 =>
      exact va2 (lv 0) (vn_call D0 (hr.mono (by decide)) (va1 (pv hv' (lv 1)) stb_P) (P := Is (.int (k.steps : Int))) (by
        rintro _ H1 e1 ⟨x, rfl, hx⟩
        exact ⟨_, ⟨x, k, rfl, hx, hn1, rfl⟩, fun u H2 e2 eu => eu⟩)) stb_is stb_is
    rintro _ H4 e4 ⟨_, _, rfl, rfl, rfl⟩
    refine ⟨g, (k.steps : Int), n + 1 + j, rfl, Gn.ex e4 r4, by omega, by omega, by omega, fun d H5 h0 h1 kp5 hg5 => ?_⟩
    obtain ⟨y, rfl⟩ : ∃ y : Nat, d = y := ⟨d.toNat, by omega⟩
    have hD5 := kp5 _ _ hDg (e4 _ _ r5)
    refine ⟨isN row, hD5, by rw [List.length_map]; omega, row ++ [y], fun x hx => ?_, by rw [List.length_append, r2]; rfl, fun b o hb ho => ?_, ?_, by rw [upd_same]; simp [isN]⟩
    · rcases List.mem_append.mp hx with h | h
      · exact r1 x h
      · rw [List.mem_singleton.mp h]; omega
    · have : b ≠ D := fun z => by rw [z, hD0] at ho; cases ho
      rw [upd_ne this]
      exact kp5 _ _ hb (e4 _ _ (r3 b o hb ho))
    · obtain ⟨x, sd, c, h1, h2⟩ := hg5
      exact ⟨x, sd, c, by rw [upd_ne (Ne.symm hDg)]; exact h1, h2⟩
  · rintro H' ⟨row, r1, r2, r3, r4, r5⟩
    exact q row D H' r1 (by omega) r3 (r4.mono (by omega)) hD0 r5
/-- _law_order -/
def spLOr : Sp := fun vs H Q _ => ∃ (g : Addr) (v : V) (k : Kd) (m n : Nat), vs = [.ref g, v, .int (m : Int)] ∧ Gn g n H ∧ PAt k v H ∧ LK k ∧ m ≤ 10 ∧ n ≤ 700000 ∧ ∀ o a H', VL k o → crs k o ≤ m → Kp g H H' → Gn g (n + 12) H' → H a = none → H' a = some (.lst (isI o)) → Q (.ref a) H'
theorem sc49 : FnScope ["_law_generator_here", "_law_pair", "_law_most", "_law_row_here"] ["_law_generator_here", "_law_pair", "_law_most"] (defScope (top 49)) := ⟨rfl, rfl, rfl, by decide +kernel, rfl, by decide +kernel, by decide +kernel⟩
theorem crs_greedy' {k : Kd} (hk : k.ok) {row : List Nat} (h : C47.Row k row) : crs k (greedyL k row) ≤ row.length := by
  have := crs_greedy hk row.reverse (by rw [List.reverse_reverse]; exact h)
  rwa [List.reverse_reverse, List.length_reverse] at this
theorem df_lor (F : FnP K mg "_law_order" (top 49)) (B : Bl mg) (D1 : DRand P w K mg base) (D2 : DF P w K mg base "_law_row" 3 ["_law_generator_here", "_law_pair", "_law_most"] spLRow) (D3 : DF P w K mg base "_law_greedy" 2 ["_law_pair", "_law_row_here"] (spOf (prLGr K))) (D4 : DF P w K mg base "_law_made" 2 ["_law_pair", "_law_row_here"] (spOf (prLMade K))) : DF P w K mg base "_law_order" 4 ["_law_generator_here", "_law_pair", "_law_most"] spLOr := by
  refine df_gen F sc49 (fun vs H Q E ⟨g, v, k, m, n, e, _⟩ => by rw [e]; rfl) (fun _ _ _ _ _ _ us hl => match us, hl with | [_, _, _], _ => rfl) ?_
  rintro f cdv A outer s H vs Q E hr ⟨g, v, k, m, n, rfl, hg, hv, ⟨hk, hn5, hrg⟩, hm, hn, q⟩
  obtain ⟨hn1, hr2⟩ := ok_n hk
  refine gs_set (i := 3) sc49.nd (ge_call D2 hr ((va3 (lv 0 : VE _ _ _ _ (.ref g)) (lv 1 : VE _ _ _ _ v) (lv 2 : VE _ _ _ _ (.int (m : Int))) stb_is stb_is stb_is).here ?_))
  rintro _ H1 e1 ⟨_, w2, _, rfl, rfl, ew, rfl⟩
  have ew : v = w2 := (show w2 = v from ew).symm
  subst ew
  refine ⟨g, v, k, m, n, rfl, Gn.ex e1 hg, stb_P _ _ _ e1 hv, ⟨hk, hn5, hrg⟩, hm, by omega, fun row a H2 r1 r2 kp2 hg2 ha0 ha => ?_⟩
  have kp02 : Kp g H H2 := (Kp.of e1).trans kp2
  have hag : a ≠ g := Kp.ne (Gn.ex e1 hg) ha0
  refine gs_ret (ge_if (gt_eqI (ge_call D1 (hr.mono (by decide)) ((va2 (lv 0 : VE _ _ _ _ (.ref g)) (ve_int (i := 2)) stb_is stb_is).here ?_)) (nomark _)))
  rintro _ H3 e3 ⟨_, _, rfl, rfl, rfl⟩
  refine ⟨g, 2, n + 11, rfl, Gn.ex e3 hg2, by omega, by omega, by omega, fun d H4 h0 h1 kp4 hg4 => (ve_int (i := 0)).here ?_⟩
  rintro _ H5 e5 rfl
  have kp25 : Kp g H2 H5 := (Kp.of e3).trans (kp4.trans (Kp.of e5))
  have kp05 := kp02.trans kp25
  have hg5 := Gn.ex e5 hg4
  have ha5 := kp25 _ _ hag ha
  have hv5 := hv.kp hg kp05
  have hrl : isL K (isN row) (.ref a) H5 := ⟨a, rfl, sq_of ha5⟩
  have fin : ∀ {o : List Int}, VL k o → crs k o ≤ m → ∀ v6 H6, Ex H5 H6 → newL H5 (isI o) v6 H6 → Q v6 H6 := fun {o} hV hc v6 H6 e6 ⟨b, eb, hb0, hb⟩ => by
    rw [eb]
    exact q o b H6 hV hc (kp05.trans (Kp.of e6)) (Gn.ex e6 hg5) (kp05.none' hg hg5 hb0) hb
  refine ⟨d, 0, rfl, rfl, ?_⟩
  by_cases hd : d = 0
  · rw [if_pos (decide_eq_true hd)]
    exact (vn_call D3 (hr.mono (by decide)) (va2 (pv hv5 (lv 1)) (llv hrl (lv 3)) stb_P stb_isL) (P := newL H5 (isI (greedyL k row))) (by
      rintro _ H6 e6 ⟨x, y, rfl, hx, hy⟩
      exact ⟨_, ⟨x, y, k, row, rfl, hx, hy, r1, hk, by omega, rfl⟩, fun u H7 e7 eu => eu.back e6⟩)).here (fin (vgreedy hk r1) (Nat.le_trans (crs_greedy' hk r1) r2))
  · rw [if_neg (by rw [decide_eq_false hd]; decide)]
    exact (vn_call D4 (hr.mono (by decide)) (va2 (pv hv5 (lv 1)) (llv hrl (lv 3)) stb_P stb_isL) (P := newL H5 (isI (made k row))) (by
      rintro _ H6 e6 ⟨x, y, rfl, hx, hy⟩
      exact ⟨_, ⟨x, y, k, row, rfl, hx, hy, r1, hk, by omega, rfl⟩, fun u H7 e7 eu => eu.back e6⟩)).here (fin (vmade hk r1) (Nat.le_trans (crs_made hk r1) r2))
end
end W47
namespace W47
open PySem PySem.Spec PyProof.Rows L2 Evl C47
/-! ### values that are bent -/
abbrev NA := Addr → Prop
def Kq (N : NA) (H H' : Hp) : Prop := ∀ b o, ¬ N b → H b = some o → H' b = some o
def Small (x : V) : Prop := (∃ i : Int, x = .int i ∧ -1000 ≤ i ∧ i ≤ 1000) ∨ ∃ b, x = .bl b
theorem Small.flat {x : V} (h : Small x) : flat2 x := by
  rcases h with ⟨i, h, _⟩ | h
  · exact .inl ⟨i, h⟩
  · exact .inr h
def ItV (N : NA) (H : Hp) (v : V) (d : PyData) : Prop := (v = .non ∧ d = .none) ∨ (v = .int 7 ∧ d = .int 7) ∨
  ∃ a xs, v = .ref a ∧ ¬ N a ∧ (∀ x ∈ xs, Small x) ∧ xs.length ≤ 10 ∧ ((H a = some (.lst xs) ∧ d = .list (xs.map toD)) ∨ (H a = some (.tup xs) ∧ d = .tuple (xs.map toD)))
def VV (N : NA) (H : Hp) (v : V) (d : PyData) : Prop := (v = .non ∧ d = .none) ∨ (∃ a, v = .ref a ∧ ¬ N a ∧ H a = some (.dK []) ∧ d = .dict []) ∨
  ∃ (a : Addr) (zs : List (V × PyData)), v = .ref a ∧ ¬ N a ∧ (∀ z ∈ zs, ItV N H z.1 z.2) ∧ zs.length ≤ 40 ∧ ((H a = some (.lst (zs.map (·.1))) ∧ d = .list (zs.map (·.2))) ∨ (H a = some (.tup (zs.map (·.1))) ∧ d = .tuple (zs.map (·.2))))
theorem ItV.kq {N : NA} {H H' : Hp} {v : V} {d : PyData} (k : Kq N H H') (h : ItV N H v d) : ItV N H' v d := by
  rcases h with h | h | ⟨a, xs, h1, h2, h3, h4, h5⟩
  · exact .inl h
  · exact .inr (.inl h)
  · refine .inr (.inr ⟨a, xs, h1, h2, h3, h4, ?_⟩)
    rcases h5 with ⟨q1, q2⟩ | ⟨q1, q2⟩
    · exact .inl ⟨k _ _ h2 q1, q2⟩
    · exact .inr ⟨k _ _ h2 q1, q2⟩
theorem VV.kq {N : NA} {H H' : Hp} {v : V} {d : PyData} (k : Kq N H H') (h : VV N H v d) : VV N H' v d := by
  rcases h with h | ⟨a, h1, h2, h3, h4⟩ | ⟨a, zs, h1, h2, h3, h4, h5⟩
  · exact .inl h
  · exact .inr (.inl ⟨a, h1, h2, k _ _ h2 h3, h4⟩)
  · refine .inr (.inr ⟨a, zs, h1, h2, fun z hz => (h3 z hz).kq k, h4, ?_⟩)
    rcases h5 with ⟨q1, q2⟩ | ⟨q1, q2⟩
    · exact .inl ⟨k _ _ h2 q1, q2⟩
    · exact .inr ⟨k _ _ h2 q1, q2⟩
theorem ItV.weak {N N' : NA} {H : Hp} {v : V} {d : PyData} (k : ∀ a, N' a → N a) (h : ItV N H v d) : ItV N' H v d := by
  rcases h with h | h | ⟨a, xs, h1, h2, h3⟩
  · exact .inl h
  · exact .inr (.inl h)
  · exact .inr (.inr ⟨a, xs, h1, fun z => h2 (k _ z), h3⟩)
theorem VV.weak {N N' : NA} {H : Hp} {v : V} {d : PyData} (k : ∀ a, N' a → N a) (h : VV N H v d) : VV N' H v d := by
  rcases h with h | ⟨a, h1, h2, h3⟩ | ⟨a, zs, h1, h2, h3, h4⟩
  · exact .inl h
  · exact .inr (.inl ⟨a, h1, fun z => h2 (k _ z), h3⟩)
  · exact .inr (.inr ⟨a, zs, h1, fun z => h2 (k _ z), fun z hz => (h3 z hz).weak k, h4⟩)
theorem Kq.of {N : NA} {H H1 : Hp} (e : Ex H H1) : Kq N H H1 := fun b o _ h => e b o h
theorem ItV.dp {K : PySem.W.Frag} {N : NA} {H : Hp} {v : V} {d : PyData} (h : ItV N H v d) : Dp K H v d ∧ ItD d := by
  rcases h with ⟨rfl, rfl⟩ | ⟨rfl, rfl⟩ | ⟨a, xs, rfl, h2, h3, h4, ⟨q1, rfl⟩ | ⟨q1, rfl⟩⟩
  · exact ⟨.non, .inl rfl⟩
  · exact ⟨.int 7, .inr (.inl ⟨7, rfl⟩)⟩
  all_goals
    have hfl : ∀ d ∈ xs.map toD, FlD d := fun d hd => by
      obtain ⟨x, hx, rfl⟩ := List.mem_map.mp hd
      rcases h3 x hx with ⟨i, rfl, _⟩ | ⟨b, rfl⟩
      · exact .inl ⟨i, rfl⟩
      · exact .inr ⟨b, rfl⟩
  · exact ⟨.lst (sq_of q1) (dp_flat fun x hx => (h3 x hx).flat), .inr (.inr (.inl ⟨_, rfl, hfl⟩))⟩
  · exact ⟨.tup (st_of q1) (dp_flat fun x hx => (h3 x hx).flat), .inr (.inr (.inr ⟨_, rfl, hfl⟩))⟩
/-! how long their texts are -/
theorem textFrom_le (ts : List Str) (acc : Str) : (textFrom 0 acc ts).length ≤ acc.length + piled ts := by
  cases ts with
  | nil => exact Nat.le_add_right _ _
  | cons t r =>
    show (textFrom 1 (acc ++ (if 0 > 0 then ", " else "" : String) ++ t) r).length ≤ _
    rw [textFrom_length_pos _ _ _ (by decide), strLen_append, strLen_append, piled_cons]
    have : (((if 0 > 0 then ", " else "" : String) : Str)).length = 0 := rfl
    omega
theorem listText_le (ts : List Str) : (listText ts).length ≤ 2 + piled ts := by
  unfold listText
  rw [strLen_append]
  have h1 := textFrom_le ts "["
  have h2 : (("[" : String) : Str).length = 1 := rfl
  have h3 : (("]" : String) : Str).length = 1 := rfl
  rw [h2] at h1
  rw [h3]
  omega
theorem tupleText_le (ts : List Str) : (tupleText ts).length ≤ 3 + piled ts := by
  unfold tupleText
  rw [strLen_append, strLen_append]
  have h1 : (("(" : String) : Str).length = 1 := rfl
  have h2 : (((if ts.length == 1 then ",)" else ")" : String) : Str)).length ≤ 2 := by split <;> decide
  have h3 : (Str.join ", " ts).length ≤ piled ts := by
    cases ts with
    | nil => exact Nat.le_refl _
    | cons t r => have := join_length_add (t :: r) (by simp); omega
  rw [h1]
  omega
theorem piled_le {M : Nat} : ∀ {ts : List Str}, (∀ t ∈ ts, t.length ≤ M) → piled ts ≤ ts.length * (M + 2)
  | [], _ => by rw [piled_nil]; exact Nat.zero_le _
  | t :: ts, h => by
    rw [piled_cons, List.length_cons, Nat.add_mul]
    have := h t List.mem_cons_self
    have := piled_le (M := M) fun u hu => h u (List.mem_cons_of_mem _ hu)
    omega
theorem shownAll_map (ds : List PyData) : PyData.shownAll ds = ds.map PyData.shown := by
  induction ds with
  | nil => simp [PyData.shownAll]
  | cons d ds ih => simp [PyData.shownAll, ih]
theorem showableAll_of {ds : List PyData} (h : ∀ d ∈ ds, d.showable = true) : PyData.showableAll ds = true := by
  induction ds with
  | nil => simp [PyData.showableAll]
  | cons d ds ih => simp [PyData.showableAll, h d List.mem_cons_self, ih fun x hx => h x (List.mem_cons_of_mem _ hx)]
/-- shown in at most M letters, in depth n -/
def ShwM (M n : Nat) (d : PyData) : Prop := d.showable = true ∧ d.shown.length ≤ M ∧ d.depth ≤ n
theorem shw_list {M n : Nat} {ds : List PyData} (h : ∀ d ∈ ds, ShwM M n d) : ShwM (3 + ds.length * (M + 2)) (n + 1) (.list ds) ∧ ShwM (3 + ds.length * (M + 2)) (n + 1) (.tuple ds) := by
  have h1 := showableAll_of fun d hd => (h d hd).1
  have h2 : piled (PyData.shownAll ds) ≤ ds.length * (M + 2) := by
    have := piled_le (ts := PyData.shownAll ds) (M := M) fun t ht => by
      rw [shownAll_map] at ht
      obtain ⟨d, hd, rfl⟩ := List.mem_map.mp ht
      exact (h d hd).2.1
    rwa [shownAll_map, List.length_map, ← shownAll_map] at this
  have h3 : PyData.depthAll ds ≤ n := by
    clear h1 h2
    induction ds with
    | nil => simp [PyData.depthAll]
    | cons d ds ih =>
      have := (h d List.mem_cons_self).2.2
      have := ih fun x hx => h x (List.mem_cons_of_mem _ hx)
      simp only [PyData.depthAll]
      omega
  have h4 := listText_le (PyData.shownAll ds)
  have h5 := tupleText_le (PyData.shownAll ds)
  refine ⟨⟨by simpa [PyData.showable] using h1, ?_, ?_⟩, by simpa [PyData.showable] using h1, ?_, ?_⟩
  · simp only [PyData.shown]; omega
  · simp only [PyData.depth]; omega
  · simp only [PyData.shown]; omega
  · simp only [PyData.depth]; omega
theorem shw_small {x : V} (h : Small x) : ShwM 8 0 (toD x) := by
  rcases h with ⟨i, rfl, h1, h2⟩ | ⟨b, rfl⟩
  · have hl : (toString i).length ≤ 5 := int_text_length_le10 (k := 4) (by decide) (by show i.natAbs < 10000; omega)
    refine ⟨?_, ?_, by simp [toD, PyData.depth]⟩
    · show (decide (i.natAbs.log2 < 1920)) = true
      refine decide_eq_true (Nat.lt_of_le_of_lt (Nat.log2_le_self _) (by omega))
    · show (Str.ofString (toString i)).length ≤ 8
      rw [PySem.ofString_length]
      omega
  · refine ⟨rfl, ?_, by simp [toD, PyData.depth]⟩
    cases b <;> decide
theorem ItV.shw {N : NA} {H : Hp} {v : V} {d : PyData} (h : ItV N H v d) : ShwM 110 1 d := by
  rcases h with ⟨rfl, rfl⟩ | ⟨rfl, rfl⟩ | ⟨a, xs, rfl, h2, h3, h4, h5⟩
  · exact ⟨rfl, by decide, by simp [PyData.depth]⟩
  · have := shw_small (x := .int 7) (.inl ⟨7, rfl, by decide, by decide⟩)
    exact ⟨this.1, Nat.le_trans this.2.1 (by decide), Nat.le_trans this.2.2 (by decide)⟩
  · have q := shw_list (M := 8) (n := 0) (ds := xs.map toD) fun d hd => by
      obtain ⟨x, hx, rfl⟩ := List.mem_map.mp hd
      exact shw_small (h3 x hx)
    rw [List.length_map] at q
    rcases h5 with ⟨_, rfl⟩ | ⟨_, rfl⟩
    · exact ⟨q.1.1, by have := q.1.2.1; omega, q.1.2.2⟩
    · exact ⟨q.2.1, by have := q.2.2.1; omega, q.2.2.2⟩
theorem VV.dp {K : PySem.W.Frag} {N : NA} {H : Hp} {v : V} {d : PyData} (h : VV N H v d) : VDp K H v d ∧ Shw d := by
  rcases h with ⟨rfl, rfl⟩ | ⟨a, rfl, _, h, rfl⟩ | ⟨a, zs, rfl, h2, h3, h4, h5⟩
  · exact ⟨.non, rfl, by rw [sizeLine_eq]; decide, by simp [PyData.depth]⟩
  · refine ⟨.dic h, by simp [PyData.showable, PyData.showableKv], ?_, by simp [PyData.depth, PyData.depthKv]⟩
    have : (PyData.shown (.dict [])).length ≤ 2 := by
      simp only [PyData.shown, PyData.shownKv]
      decide
    rw [sizeLine_eq]; omega
  · have q := shw_list (M := 110) (n := 1) (ds := zs.map (·.2)) fun d hd => by
      obtain ⟨z, hz, rfl⟩ := List.mem_map.mp hd
      exact (h3 z hz).shw
    rw [List.length_map] at q
    have hall : DpAll K H (zs.map (·.1)) (zs.map (·.2)) := dpall_of fun z hz => (h3 z hz).dp.1
    rcases h5 with ⟨q1, rfl⟩ | ⟨q1, rfl⟩
    · refine ⟨.lst (.lst (sq_of q1) hall) (fun d hd => ?_) (by rw [List.length_map]; omega), q.1.1, by rw [sizeLine_eq]; have := q.1.2.1; omega, Nat.le_trans q.1.2.2 (by decide)⟩
      obtain ⟨z, hz, rfl⟩ := List.mem_map.mp hd
      exact ((h3 z hz).dp (K := K)).2
    · exact ⟨.tup (.tup (st_of q1) hall), q.2.1, by rw [sizeLine_eq]; have := q.2.2.1; omega, Nat.le_trans q.2.2.2 (by decide)⟩
end W47
namespace W47
open PySem PySem.Spec PyProof.Rows L2 Evl C47
theorem cutV_map {α : Type} (f : α → V) (l : List α) (lo hi : Option Int) : ∃ l' : List α, cutV (l.map f) lo hi = l'.map f ∧ (∀ z ∈ l', z ∈ l) ∧ l'.length ≤ l.length := by
  refine ⟨(l.drop (HT.sIx (l.map f).length 0 lo)).take (HT.sIx (l.map f).length (l.map f).length hi - HT.sIx (l.map f).length 0 lo), ?_, fun z hz => List.mem_of_mem_drop (List.mem_of_mem_take hz), ?_⟩
  · unfold cutV
    rw [List.map_take, List.map_drop]
  · rw [List.length_take, List.length_drop]
    omega
theorem cutV_mem (xs : List V) (lo hi : Option Int) : ∀ x ∈ cutV xs lo hi, x ∈ xs := fun x hx => by
  unfold cutV at hx
  exact List.mem_of_mem_drop (List.mem_of_mem_take hx)
/-- as a predicate on values -/
abbrev VVx (N : NA) : PV := fun v H => ∃ d, VV N H v d
abbrev ItX (N : NA) : PV := fun v H => ∃ d, ItV N H v d
theorem stb_VVx {N : NA} : Stb (VVx N) := fun _ _ _ e ⟨d, h⟩ => ⟨d, h.kq (.of e)⟩
theorem stb_ItX {N : NA} : Stb (ItX N) := fun _ _ _ e ⟨d, h⟩ => ⟨d, h.kq (.of e)⟩
theorem choose_all {N : NA} {H : Hp} : ∀ {xs : List V}, (∀ x ∈ xs, ItX N x H) → ∃ zs : List (V × PyData), xs = zs.map (·.1) ∧ ∀ z ∈ zs, ItV N H z.1 z.2
  | [], _ => ⟨[], rfl, fun z h => by cases h⟩
  | x :: xs, h => by
    obtain ⟨d, hd⟩ := h x List.mem_cons_self
    obtain ⟨zs, e, hz⟩ := choose_all fun y hy => h y (List.mem_cons_of_mem _ hy)
    refine ⟨(x, d) :: zs, by rw [e]; rfl, fun z hz' => ?_⟩
    rcases List.mem_cons.mp hz' with q | q
    · rw [q]; exact hd
    · exact hz z q
theorem choose_VV {N : NA} {H : Hp} : ∀ {xs : List V}, (∀ x ∈ xs, VVx N x H) → ∃ zs : List (V × PyData), xs = zs.map (·.1) ∧ ∀ z ∈ zs, VV N H z.1 z.2
  | [], _ => ⟨[], rfl, fun z h => by cases h⟩
  | x :: xs, h => by
    obtain ⟨d, hd⟩ := h x List.mem_cons_self
    obtain ⟨zs, e, hz⟩ := choose_VV fun y hy => h y (List.mem_cons_of_mem _ hy)
    refine ⟨(x, d) :: zs, by rw [e]; rfl, fun z hz' => ?_⟩
    rcases List.mem_cons.mp hz' with q | q
    · rw [q]; exact hd
    · exact hz z q
/-- a new list of items -/
theorem vv_list {N : NA} {H : Hp} {a : Addr} {xs : List V} (hN : ¬ N a) (h : H a = some (.lst xs)) (hx : ∀ x ∈ xs, ItX N x H) (hl : xs.length ≤ 40) : VVx N (.ref a) H := by
  obtain ⟨zs, rfl, hz⟩ := choose_all hx
  rw [List.length_map] at hl
  exact ⟨_, .inr (.inr ⟨a, zs, rfl, hN, hz, hl, .inl ⟨h, rfl⟩⟩)⟩
theorem vv_tuple {N : NA} {H : Hp} {a : Addr} {xs : List V} (hN : ¬ N a) (h : H a = some (.tup xs)) (hx : ∀ x ∈ xs, ItX N x H) (hl : xs.length ≤ 40) : VVx N (.ref a) H := by
  obtain ⟨zs, rfl, hz⟩ := choose_all hx
  rw [List.length_map] at hl
  exact ⟨_, .inr (.inr ⟨a, zs, rfl, hN, hz, hl, .inr ⟨h, rfl⟩⟩)⟩
theorem it_list {N : NA} {H : Hp} {a : Addr} {xs : List V} (hN : ¬ N a) (h : H a = some (.lst xs)) (hx : ∀ x ∈ xs, Small x) (hl : xs.length ≤ 10) : ItX N (.ref a) H := ⟨_, .inr (.inr ⟨a, xs, rfl, hN, hx, hl, .inl ⟨h, rfl⟩⟩)⟩
theorem it_tuple {N : NA} {H : Hp} {a : Addr} {xs : List V} (hN : ¬ N a) (h : H a = some (.tup xs)) (hx : ∀ x ∈ xs, Small x) (hl : xs.length ≤ 10) : ItX N (.ref a) H := ⟨_, .inr (.inr ⟨a, xs, rfl, hN, hx, hl, .inr ⟨h, rfl⟩⟩)⟩
theorem rep_one (m : Nat) (x : V) : (List.replicate m [x]).flatten = List.replicate m x := by
  induction m with
  | zero => rfl
  | succ m ih => rw [List.replicate_succ, List.flatten_cons, ih, List.replicate_succ]; rfl
theorem ItV.apart {N : NA} {H : Hp} {v : V} {d : PyData} {D : Addr} (hD : H D = none) (h : ItV N H v d) : ItV (fun a => N a ∨ a = D) H v d := by
  rcases h with h | h | ⟨a, xs, h1, h2, h3, h4, h5⟩
  · exact .inl h
  · exact .inr (.inl h)
  · refine .inr (.inr ⟨a, xs, h1, fun z => ?_, h3, h4, h5⟩)
    rcases z with z | z
    · exact h2 z
    · subst z
      rcases h5 with ⟨q, _⟩ | ⟨q, _⟩ <;> (rw [hD] at q; cases q)
theorem pl_rep {P : PV} {n : Nat} {xs : List V} {H : Hp} (h : PL (List.replicate n P) xs H) : ∀ x ∈ xs, P x H := by
  have : ∀ (n : Nat) (xs : List V), PL (List.replicate n P) xs H → ∀ x ∈ xs, P x H := by
    intro n
    induction n with
    | zero => intro xs h x hx; cases h; cases hx
    | succ n ih =>
      intro xs h x hx
      rw [List.replicate_succ] at h
      cases h with
      | cons r t =>
        rcases List.mem_cons.mp hx with q | q
        · rw [q]; exact r
        · exact ih _ t x q
  exact this n xs h
section
variable {X : Cx} {σ : L2.St} {H H' : Hp} {a b e : Expr} {es : List Expr} {pos p : Pos} {Q : VK} {QA : List V → Hp → Prop}
/-- tuple(xs) -/
theorem vn_tupOf {xs : List V} (hm : X.mg "tuple" = none) (ha : VN X a σ H (isL X.K xs)) (hg : Gl X "tuple" := by rfl) (na : starEach [a] X.env = (false, eval a X.env) :: starEach [] X.env := by rfl) : VN X (.Call (.Name "tuple" p) [a] [] pos) σ H fun v H' => ∃ q, v = .ref q ∧ H q = none ∧ H' q = some (.tup xs) :=
  vn_by (pe_tupleOf hg hm pe_any na) fun H1 e1 Q q => ha H1 e1 _ fun v H2 e2 ⟨l, ev, hl⟩ => .inl ⟨l, xs, ev, hl, fun p hp => q _ _ (e2.trans (Ex.new hp)) ⟨p, rfl, fresh_back (e1.trans e2) hp, upd_same⟩⟩
theorem ge_lst (h : anyA X es σ H fun vs H1 => vs.length ≤ 1000 ∧ ∀ l, H1 l = none → Q (.ref l) (upd H1 l (.lst vs))) : anyE X (.List es pos) σ H Q := ⟨_, pe_lst pa_any, by
  refine ga_mono h fun vs H1 ⟨h1, h2⟩ => ⟨Nat.le_of_lt (small1000 h1), h2⟩⟩
where
  ga_mono {X : Cx} {es : List Expr} {σ : L2.St} {H : Hp} {Q0 Q : List V → Hp → Prop} (h : anyA X es σ H Q0) (i : ∀ v H', Q0 v H' → Q v H') : anyA X es σ H Q := ⟨fun σ H Q => ∃ Q0, anyA X es σ H Q0 ∧ ∀ v H', Q0 v H' → Q v H', ⟨fun pos pins s σ H Q I ⟨Q0, h, i⟩ => thn (pa_any.run pos pins s σ H Q0 I h) fun v s' ⟨x, H', I', r, q⟩ => ⟨x, H', I', r, i _ _ q⟩⟩, Q0, h, i⟩
end
section
variable {P : Program} {w : World} {K : PySem.W.Frag} {mg : Str → Option Value} {base : Heap} {C : Addr}
/-- orders at addresses that g is not -/
def Ords (N : NA) (k : Kd) (H : Hp) (ps : List (Addr × List Int)) : Prop := ∀ q ∈ ps, ¬ N q.1 ∧ H q.1 = some (.lst (isI q.2)) ∧ q.2.length = k.n ∧ Big 60 q.2
theorem Ords.kq {N : NA} {k : Kd} {H H' : Hp} {ps : List (Addr × List Int)} (e : Kq N H H') (h : Ords N k H ps) : Ords N k H' ps := fun q hq => by
  obtain ⟨h1, h2, h3⟩ := h q hq
  exact ⟨h1, e _ _ h1 h2, h3⟩
theorem small_big {o : List Int} (h : Big 60 o) : ∀ x ∈ isI o, Small x := fun x hx => by
  obtain ⟨i, hi, rfl⟩ := List.mem_map.mp hx
  have := h i hi
  exact .inl ⟨i, rfl, by omega, by omega⟩
theorem Ords.it {N : NA} {k : Kd} {H : Hp} {ps : List (Addr × List Int)} (hn : k.n ≤ 5) (h : Ords N k H ps) : ∀ x ∈ rfs ps, ItX N x H := fun x hx => by
  obtain ⟨q, hq, rfl⟩ := List.mem_map.mp hx
  obtain ⟨h1, h2, h3, h4⟩ := h q hq
  exact it_list h1 h2 (small_big h4) (by rw [isI_len]; omega)
/-- _law_bent -/
def spLBe : Sp := fun vs H Q _ => ∃ (g : Addr) (v : V) (k : Kd) (n : Nat) (p : Addr) (ps : List (Addr × List Int)), vs = [.ref g, v, .ref p] ∧ Gn g n H ∧ PAt k v H ∧ LK k ∧ n ≤ 600000 ∧ p ≠ g ∧ H p = some (.lst (rfs ps)) ∧ Ords (· = g) k H ps ∧ 1 ≤ ps.length ∧ ps.length ≤ 15 ∧
  ∀ (zs : List (V × PyData)) b H', Kp g H H' → Gn g (n + 20) H' → H b = none → H' b = some (.lst (zs.map (·.1))) → (∀ z ∈ zs, VV (· = g) H' z.1 z.2) → zs.length ≤ 40 → Q (.ref b) H'
theorem sc53 : FnScope ["_law_generator_here", "_law_pair", "_law_value", "_law_at", "_law_found", "_law_item", "_law_far", "_law_odd", "_law_beside"] ["_law_generator_here", "_law_pair", "_law_value"] (defScope (top 53)) := ⟨rfl, rfl, rfl, by decide +kernel, rfl, by decide +kernel, by decide +kernel⟩
theorem df_lbe (F : FnP K mg "_law_bent" (top 53)) (B : Bl mg) (D1 : DRand P w K mg base) (D2 : DF P w K mg base "_law_order" 4 ["_law_generator_here", "_law_pair", "_law_most"] spLOr) (D3 : DF P w K mg base "_law_start" 1 ["_law_pair"] (spOf prLStart)) : DF P w K mg base "_law_bent" 5 ["_law_generator_here", "_law_pair", "_law_value"] spLBe := by
  refine df_gen F sc53 (fun vs H Q E ⟨g, v, k, n, p, ps, e, _⟩ => by rw [e]; rfl) (fun _ _ _ _ _ _ us hl => match us, hl with | [_, _, _], _ => rfl) ?_
  rintro f cdv A outer s H vs Q E hr ⟨g, v, k, n, p, ps, rfl, hg, hv, ⟨hk, hn5, hrg⟩, hn, hpg, hp, ho, hl1, hl2, q⟩
  obtain ⟨hn1, hr2⟩ := ok_n hk
  have hpl : isL K (rfs ps) (.ref p) H := ⟨p, rfl, sq_of hp⟩
  have hrl : (rfs ps).length = ps.length := List.length_map _
  refine gs_set (i := 3) sc53.nd (ge_call D1 (hr.mono (by decide)) ((va2 (lv 0 : VE _ _ _ _ (.ref g)) (ve_len B.len (llv hpl (lv 2))) stb_is stb_is).here ?_))
  rintro _ H1 e1 ⟨_, _, rfl, rfl, rfl⟩
  refine ⟨g, _, n, rfl, Gn.ex e1 hg, by omega, by omega, by omega, fun d H2 h0 h1 kp2 hg2 => ?_⟩
  obtain ⟨at_, rfl⟩ : ∃ z : Nat, d = z := ⟨d.toNat, by omega⟩
  have hat : at_ < ps.length := by omega
  have kp02 : Kp g H H2 := (Kp.of e1).trans kp2
  have hp2 : H2 p = some (.lst (rfs ps)) := kp02 _ _ hpg hp
  have ho2 := ho.kq kp02
  have hv2 := hv.kp hg kp02
  have hpl2 : isL K (rfs ps) (.ref p) H2 := ⟨p, rfl, sq_of hp2⟩
  have it2 := ho2.it hn5
  -- a list of items, new
  have nl : ∀ {xs : List V} {v : V} {H3 : Hp}, Ex H2 H3 → newL H2 xs v H3 → (∀ x ∈ xs, x ∈ rfs ps) → xs.length ≤ 40 → VVx (· = g) v H3 := fun {xs v H3} e ⟨a, ea, ha0, ha⟩ hx hl => by
    rw [ea]
    exact vv_list (Kp.ne hg2 ha0) ha (fun x h => stb_ItX _ _ _ e (it2 x (hx x h))) hl
  have cutl : ∀ lo hi, (cutV (rfs ps) lo hi).length ≤ 15 := fun lo hi => Nat.le_trans (cutV_length _ _ _) (by omega)
  -- found
  refine vs_set (i := 4) sc53.nd (P := fun v H' => ∃ b xs, v = .ref b ∧ b ≠ g ∧ H b = none ∧ H' b = some (.lst xs) ∧ xs.length = 10 ∧ ∀ x ∈ xs, VVx (· = g) x H') ((vn_lst (PA' := PL (List.replicate 10 (VVx (· = g)))) (
    va_p ((lv 2 : VE _ _ _ _ (.ref p)).imp fun v3 H3 e3 ev => (by rw [show v3 = _ from ev]; exact vv_list hpg (e3 _ _ hp2) (fun x h => stb_ItX _ _ _ e3 (it2 x h)) (by omega))) stb_VVx <|
    va_p ((vn_sl (llv hpl2 (lv 2)) (po_some pe_any) po_none ((ve_int : VE _ _ _ _ (.int 1)).ev) eo_none).imp fun v3 H3 e3 h => nl e3 h (cutV_mem _ _ _) (Nat.le_trans (cutl _ _) (by decide))) stb_VVx <|
    va_p ((vn_rev (llv hpl2 (lv 2))).imp fun v3 H3 e3 h => nl e3 h (fun x hx => List.mem_reverse.mp hx) (by rw [List.length_reverse]; omega)) stb_VVx <|
    va_p ((vn_catS (llv hpl2 (lv 2)) (llv hpl2 (lv 2)) (by omega)).imp fun v3 H3 e3 h => nl e3 h (fun x hx => (List.mem_append.mp hx).elim id id) (by rw [List.length_append]; omega)) stb_VVx <|
    va_p ((vn_tupOf B.tuple (llv hpl2 (lv 2))).imp fun v3 H3 e3 ⟨a, ea, ha0, ha⟩ => (by rw [ea]; exact vv_tuple (Kp.ne hg2 ha0) ha (fun x h => stb_ItX _ _ _ e3 (it2 x h)) (by omega))) stb_VVx <|
    va_p ((ve_non).imp fun v3 H3 e3 ev => ⟨.none, .inl ⟨ev, rfl⟩⟩) stb_VVx <|
    va_p (vn_dic.imp fun v3 H3 e3 ⟨a, ea, ha0, ha⟩ => ⟨_, .inr (.inl ⟨a, ea, Kp.ne hg2 ha0, ha, rfl⟩)⟩) stb_VVx <|
    va_p (vn_nil.imp fun v3 H3 e3 h => nl e3 h (fun x hx => by cases hx) (by simp)) stb_VVx <|
    va_p ((vn_catS ((vn_sl (llv hpl2 (lv 2)) po_none (po_some pe_any) eo_none ((lv 3 : VE _ _ _ _ (.int (at_ : Int))).ev)).imp fun _ _ _ h => h.l) ((vn_sl (llv hpl2 (lv 2)) (po_some pe_any) po_none ((ve_add (lv 3) ve_int : VE _ _ _ _ (.int ((at_ : Int) + 1))).ev) eo_none).imp fun _ _ _ h => h.l) (by have := cutl none (some (at_ : Int)); have := cutl (some ((at_ : Int) + 1)) none; omega)).imp fun v3 H3 e3 h => nl e3 h (fun x hx => (List.mem_append.mp hx).elim (cutV_mem _ _ _ x) (cutV_mem _ _ _ x)) (by rw [List.length_append]; have := cutl none (some (at_ : Int)); have := cutl (some ((at_ : Int) + 1)) none; omega)) stb_VVx <|
    va_p ((vn_catS (llv hpl2 (lv 2)) ((vn_sl (llv hpl2 (lv 2)) (po_some pe_any) po_none ((ve_sub (ve_len B.len (llv hpl2 (lv 2))) ve_int : VE _ _ _ _ (.int (((rfs ps).length : Int) - 1))).ev) eo_none).imp fun _ _ _ h => h.l) (by have := cutl (some (((rfs ps).length : Int) - 1)) none; omega)).imp fun v3 H3 e3 h => nl e3 h (fun x hx => (List.mem_append.mp hx).elim id (cutV_mem _ _ _ x)) (by rw [List.length_append]; have := cutl (some (((rfs ps).length : Int) - 1)) none; omega)) stb_VVx va_p0) (stb_PL fun P hP => by rw [List.eq_of_mem_replicate hP]; exact stb_VVx) fun vs _ h => by rw [paired_len h]; simp).imp fun v3 H3 e3 ⟨b, xs, eb, hb0, hb, hx⟩ => ⟨b, xs, eb, Kp.ne hg2 hb0, kp02.none' hg hg2 hb0, hb, paired_len hx, pl_rep hx⟩) fun _ H3 e3 h3 => ?_
  obtain ⟨fb, fx, rfl, hfg, hf0, hf, hfl, hfx⟩ := h3
  -- item, far
  have kp03 := kp02.trans (Kp.of e3)
  have hg3 := Gn.ex e3 hg2
  have hv3 := stb_P _ _ _ e3 hv2
  have ho3 := ho2.kq (.of e3)
  have hp3 := e3 _ _ hp2
  have hpl3 := stb_isL _ _ _ e3 hpl2
  obtain ⟨i1, i2, i3, i4⟩ := ho3 ps[at_] (List.getElem_mem hat)
  generalize hia : (ps[at_]).1 = ia at i1 i2
  generalize hio : (ps[at_]).2 = io at i2 i3 i4
  have hatI : atI (rfs ps) (at_ : Int) = some (.ref ia) := by
    rw [← hia]
    exact atI_nat (by rw [List.getElem?_map, List.getElem?_eq_getElem hat]; rfl)
  refine vs_par (i := 5) (j := 6) (P1 := Is (.ref ia)) (P2 := Is (.int (60 * (k.n : Int)))) sc53.nd (ve_ixL (llv hpl3 (lv 2)) (lv 3) hatI) (ve_mul (i := 60) (j := (k.n : Int)) (.inl (by omega)) ve_int (ve_p1 (pv hv3 (lv 1)))) stb_is stb_is fun _ _ H4 e4 ev ew => ?_
  cases ev
  cases ew
  have hg4 := Gn.ex e4 hg3
  have hv4 := stb_P _ _ _ e4 hv3
  have hi4 := e4 _ _ i2
  have hil4 : isL K (isI io) (.ref ia) H4 := ⟨ia, rfl, sq_of hi4⟩
  have smI := small_big i4
  have lenI : (isI io).length ≤ 5 := by rw [isI_len]; omega
  have kp04 := kp03.trans (Kp.of e4)
  have nlI : ∀ {xs : List V} {v : V} {H0 H5 : Hp}, Gn g (n + 1) H0 → newL H0 xs v H5 → (∀ x ∈ xs, Small x) → xs.length ≤ 10 → ItX (· = g) v H5 := fun {xs v H0 H5} hg0 ⟨a, ea, ha0, ha⟩ hx hl => by
    rw [ea]
    exact it_list (Kp.ne hg0 ha0) ha hx hl
  have sm0 : ∀ x ∈ [V.int 0], Small x := fun x hx => by rw [List.mem_singleton.mp hx]; exact .inl ⟨0, rfl, by decide, by decide⟩
  refine gs_set (i := 7) sc53.nd (ge_lst ?_)
  refine ga_cons (VN.here (P := ItX (· = g)) ?_ fun v1 K1 f1 p1 => ?_)
  · exact ve_non.imp fun v H e ev => ⟨.none, .inl ⟨ev, rfl⟩⟩
  refine ga_cons (VN.here (P := ItX (· = g)) ?_ fun v2 K2 f2 p2 => ?_)
  · exact (ve_int (i := 7)).imp fun v H e ev => ⟨.int 7, .inr (.inl ⟨ev, rfl⟩)⟩
  have f02 := f1.trans f2
  refine ga_cons (VN.here (P := ItX (· = g)) ?_ fun v3 K3 f3 p3 => ?_)
  · exact vn_nil.imp fun v H e h => nlI (Gn.ex f02 hg4) h (fun x hx => by cases hx) (by simp)
  have f03 := f02.trans f3
  refine ga_cons (VN.here (P := ItX (· = g)) ?_ fun v4 K4 f4 p4 => ?_)
  · exact (vn_tupOf B.tuple (llv (stb_isL _ _ _ f03 hil4) (lv 5))).imp fun v H e ⟨a, ea, ha0, ha⟩ => (by rw [ea]; exact it_tuple (Kp.ne (Gn.ex f03 hg4) ha0) ha smI (by omega))
  have f04 := f03.trans f4
  refine ga_cons (VN.here (P := ItX (· = g)) ?_ fun v5 K5 f5 p5 => ?_)
  · exact (vn_catS (xs := isI io) (ys := [V.int 0]) (llv (stb_isL _ _ _ f04 hil4) (lv 5)) ((vn_lst (va1 (ve_int (i := 0)) stb_is) (fun _ _ _ _ h => h) fun vs _ ⟨_, e, _⟩ => by rw [e]; simp).imp fun v' H' _ ⟨q, xs, e, _, hq, x, ex, ev⟩ => ⟨q, e, sq_of (by rw [hq, ex, show x = _ from ev])⟩) (by simp; omega)).imp fun v H e h => nlI (Gn.ex f04 hg4) h (fun x hx => (List.mem_append.mp hx).elim (smI x) (sm0 x)) (by rw [List.length_append]; simp; omega)
  have f05 := f04.trans f5
  refine ga_cons (VN.here (P := ItX (· = g)) ?_ fun v6 K6 f6 p6 => ?_)
  · exact (vn_rep (xs := [V.bl true]) (m := k.n) ((vn_lst (va1 (ve_bl (c := true)) stb_is) (fun _ _ _ _ h => h) fun vs _ ⟨_, e, _⟩ => by rw [e]; simp).imp fun v' H' _ ⟨q, xs, e, _, hq, x, ex, ev⟩ => ⟨q, e, by rw [hq, ex, show x = _ from ev]⟩) (ve_p1 (pv (stb_P _ _ _ f05 hv4) (lv 1))) (by simp; omega)).imp fun v H e h => nlI (Gn.ex f05 hg4) h (fun x hx => by rw [rep_one] at hx; rw [List.eq_of_mem_replicate hx]; exact .inr ⟨true, rfl⟩) (by rw [rep_one, List.length_replicate]; omega)
  have f06 := f05.trans f6
  refine ga_cons (VN.here (P := ItX (· = g)) ?_ fun v7 K7 f7 p7 => ?_)
  · exact (vn_rep (xs := [V.int 0]) (m := k.n) ((vn_lst (va1 (ve_int (i := 0)) stb_is) (fun _ _ _ _ h => h) fun vs _ ⟨_, e, _⟩ => by rw [e]; simp).imp fun v' H' _ ⟨q, xs, e, _, hq, x, ex, ev⟩ => ⟨q, e, by rw [hq, ex, show x = _ from ev]⟩) (ve_p1 (pv (stb_P _ _ _ f06 hv4) (lv 1))) (by simp; omega)).imp fun v H e h => nlI (Gn.ex f06 hg4) h (fun x hx => by rw [rep_one] at hx; rw [List.eq_of_mem_replicate hx]; exact sm0 _ (List.mem_singleton.mpr rfl)) (by rw [rep_one, List.length_replicate]; omega)
  have f07 := f06.trans f7
  have hv7 := stb_P _ _ _ f07 hv4
  refine ga_cons (ge_call D2 (hr.mono (by decide)) ((va3 (lv 0 : VE _ _ _ _ (.ref g)) (lv 1 : VE _ _ _ _ v) (ve_int (i := 8)) stb_is stb_is stb_is).here ?_))
  rintro _ K8 f8 ⟨_, w2, _, rfl, rfl, ew, rfl⟩
  have ew : v = w2 := (show w2 = v from ew).symm
  subst ew
  refine ⟨g, v, k, 8, n + 1, rfl, Gn.ex (f07.trans f8) hg4, stb_P _ _ _ f8 hv7, ⟨hk, hn5, hrg⟩, by omega, by omega, fun o8 a8 K9 hV8 hc8 kp9 hg9 ha80 ha8 => ?_⟩
  have ha8g : a8 ≠ g := Kp.ne (Gn.ex (f07.trans f8) hg4) ha80
  have kq9 : Kq (· = g) K7 K9 := fun b o hb ho => kp9 b o hb (f8 _ _ ho)
  have p8 : ItX (· = g) (.ref a8) K9 := it_list ha8g ha8 (small_big (big_few hk hV8 (by omega) hn5)) (by rw [isI_len, VL.len hV8]; omega)
  have kp49 : Kp g H4 K9 := (Kp.of (f07.trans f8)).trans kp9
  have hv9 := hv4.kp hg4 kp49
  refine ga_cons (VN.here (P := ItX (· = g)) ?_ fun v9 K10 f10 p9 => ?_)
  · exact (vn_call D3 (hr.mono (by decide)) (va1 (pv hv9 (lv 1)) stb_P) (P := newL K9 (isI k.start)) (by
      rintro _ H5 e5 ⟨x, rfl, hx⟩
      exact ⟨_, ⟨x, k, rfl, hx, by omega, rfl⟩, fun u H6 e6 eu => eu.back e5⟩)).imp fun v H e ⟨a, ea, ha0, ha⟩ => (by
      rw [ea]
      exact it_list (Kp.ne hg9 ha0) ha (small_big (big_few hk (vstart hk) (by rw [crs_start]; omega) hn5)) (by rw [isI_len, VL.len (vstart hk)]; omega))
  refine ga_nil ⟨by simp, fun l hl => ?_⟩
  have kq10 : ∀ {x}, ItX (· = g) x K7 → ItX (· = g) x K10 := fun {x} ⟨d, h⟩ => ⟨d, h.kq fun b o hb ho => f10 _ _ (kq9 b o hb ho)⟩
  have hodd : ∀ x ∈ [v1, v2, v3, v4, v5, v6, v7, .ref a8, v9], ItX (· = g) x K10 := by
    intro x hx
    simp only [List.mem_cons, List.not_mem_nil, or_false] at hx
    rcases hx with rfl | rfl | rfl | rfl | rfl | rfl | rfl | rfl | rfl
    · exact kq10 (stb_ItX _ _ _ ((f2.trans f3).trans ((f4.trans f5).trans (f6.trans f7))) p1)
    · exact kq10 (stb_ItX _ _ _ (f3.trans ((f4.trans f5).trans (f6.trans f7))) p2)
    · exact kq10 (stb_ItX _ _ _ ((f4.trans f5).trans (f6.trans f7)) p3)
    · exact kq10 (stb_ItX _ _ _ (f5.trans (f6.trans f7)) p4)
    · exact kq10 (stb_ItX _ _ _ (f6.trans f7) p5)
    · exact kq10 (stb_ItX _ _ _ f7 p6)
    · exact kq10 p7
    · exact stb_ItX _ _ _ f10 p8
    · exact p9
  generalize hxo : [v1, v2, v3, v4, v5, v6, v7, .ref a8, v9] = xo at hodd
  have hxol : xo.length = 9 := by rw [← hxo]; rfl
  have hg10 := Gn.ex f10 hg9
  have kp410 : Kp g H4 K10 := kp49.trans (Kp.of f10)
  have hlg : l ≠ g := Kp.ne hg10 hl
  have eL : Ex K10 (upd K10 l (.lst xo)) := Ex.new hl
  have hL : (upd K10 l (.lst xo)) l = some (.lst xo) := upd_same
  have kp4L : Kp g H4 (upd K10 l (.lst xo)) := kp410.trans (Kp.of eL)
  have hgL := Gn.ex eL hg10
  have hodL : ∀ x ∈ xo, ItX (· = g) x (upd K10 l (.lst xo)) := fun x hx => stb_ItX _ _ _ eL (hodd x hx)
  have hl10 : K10 l = none := hl
  show VS _ _ _ _ (upd K10 l (.lst xo))
  generalize upd K10 l (.lst xo) = KL at eL hL kp4L hgL hodL
  have hiL : KL ia = some (.lst (isI io)) := kp4L _ _ i1 hi4
  have hilL : isL K (isI io) (.ref ia) KL := ⟨ia, rfl, sq_of hiL⟩
  have hgi := big_gi (by decide) i4
  have hn0 : 0 < io.length := by omega
  refine vs_app (P := ItX (fun a => a = g ∨ a = l)) hL (lv 7) ?_ stb_ItX (by omega) fun vx K12 f12 px => ?_
  · refine (vn_catS (xs := [V.int (gi io 0 + 60 * (k.n : Int))] ++ cutV (isI io) (some 1) (some ((isI io).length - 1))) (ys := [V.int (gi io (io.length - 1) - 60 * (k.n : Int))]) ((vn_catS (xs := [V.int (gi io 0 + 60 * (k.n : Int))]) ((vn_lst (va1 (P1 := Is (.int (gi io 0 + 60 * (k.n : Int)))) (ve_add (ve_ixL (v := .int (gi io 0)) (llv hilL (lv 5)) ve_int (at_In (n := 0) hn0)) (lv 6)) stb_is) (fun _ _ _ _ h => h) fun vs _ ⟨_, e, _⟩ => by rw [e]; simp).imp fun v' H' _ ⟨q, xs, e, _, hq, x, ex, ev⟩ => ⟨q, e, sq_of (by rw [hq, ex, show x = _ from ev])⟩) ((vn_sl (llv hilL (lv 5)) (po_some pe_any) (po_some pe_any) ((ve_int : VE _ _ _ _ (.int 1)).ev) ((ve_sub (ve_len B.len (llv hilL (lv 5))) ve_int : VE _ _ _ _ (.int (((isI io).length : Int) - 1))).ev)).imp fun _ _ _ h => h.l) ?_).imp fun _ _ _ h => h.l) ((vn_lst (va1 (P1 := Is (.int (gi io (io.length - 1) - 60 * (k.n : Int)))) (ve_sub (ve_ixL (v := .int (gi io (io.length - 1))) (llv hilL (lv 5)) (ve_sub (ve_len B.len (llv hilL (lv 5))) ve_int) ?_) (lv 6)) stb_is) (fun _ _ _ _ h => h) fun vs _ ⟨_, e, _⟩ => by rw [e]; simp).imp fun v' H' _ ⟨q, xs, e, _, hq, x, ex, ev⟩ => ⟨q, e, sq_of (by rw [hq, ex, show x = _ from ev])⟩) ?_).imp fun v H e ⟨a, ea, ha0, ha⟩ => (by
      rw [ea]
      refine it_list (fun z => z.elim (Kp.ne hgL ha0) fun z => by rw [z, hL] at ha0; cases ha0) ha (fun x hx => ?_) ?_
      · have g0 := hgi 0
        have g1 := hgi (io.length - 1)
        rcases List.mem_append.mp hx with hx | hx
        · rcases List.mem_append.mp hx with hx | hx
          · rw [List.mem_singleton.mp hx]; exact .inl ⟨_, rfl, by omega, by omega⟩
          · exact smI x (cutV_mem _ _ _ x hx)
        · rw [List.mem_singleton.mp hx]; exact .inl ⟨_, rfl, by omega, by omega⟩
      · have := cutV_length (isI io) (some 1) (some (((isI io).length : Int) - 1))
        simp only [List.length_append, List.length_singleton]
        omega)
    · have := cutV_length (isI io) (some 1) (some (((isI io).length : Int) - 1))
      simp only [List.length_singleton]
      omega
    · rw [isI_len, show ((io.length : Int) - 1) = ((io.length - 1 : Nat) : Int) by omega]
      exact at_In (by omega)
    · have := cutV_length (isI io) (some 1) (some (((isI io).length : Int) - 1))
      simp only [List.length_append, List.length_singleton]
      omega
  have e10O : Ex K10 K12 := eL.trans f12
  have hodO : ∀ x ∈ xo ++ [vx], ItX (fun a => a = g ∨ a = l) x K12 := fun x hx => by
    rcases List.mem_append.mp hx with hx | hx
    · obtain ⟨d, hd⟩ := hodd x hx
      exact ⟨d, (ItV.apart hl10 hd).kq (.of e10O)⟩
    · rw [List.mem_singleton.mp hx]; exact px
  have kqO : Kq (fun a => a = g ∨ a = l) K12 (upd K12 l (.lst (xo ++ [vx]))) := fun b o hb ho => by rw [upd_ne fun z => hb (.inr z)]; exact ho
  have hodO : ∀ x ∈ xo ++ [vx], ItX (· = g) x (upd K12 l (.lst (xo ++ [vx]))) := fun x hx => by
    obtain ⟨d, hd⟩ := hodO x hx
    exact ⟨d, (hd.kq kqO).weak fun a z => .inl z⟩
  have kp4O : Kp g H4 (upd K12 l (.lst (xo ++ [vx]))) := fun b o hb ho => by
    have hb10 := kp410 b o hb ho
    have : b ≠ l := fun z => by rw [z, hl10] at hb10; cases hb10
    rw [upd_ne this]
    exact e10O _ _ hb10
  have hgO : Gn g (n + 1 + 12) (upd K12 l (.lst (xo ++ [vx]))) := by
    obtain ⟨x, sd, c, q1, q2⟩ := Gn.ex f12 hgL
    exact ⟨x, sd, c, by rw [upd_ne (Ne.symm hlg)]; exact q1, q2⟩
  have hO : (upd K12 l (.lst (xo ++ [vx]))) l = some (.lst (xo ++ [vx])) := upd_same
  show VS _ _ _ _ (upd K12 l (.lst (xo ++ [vx])))
  generalize hxx : xo ++ [vx] = xx at hodO kp4O hgO hO
  have hxxl : xx.length = 10 := by rw [← hxx, List.length_append, hxol]; rfl
  generalize upd K12 l (.lst xx) = KO at hodO kp4O hgO hO
  have kp3O := (Kp.of (g := g) e4).trans kp4O
  have hfO : KO fb = some (.lst fx) := kp3O _ _ hfg hf
  have hfxO : ∀ x ∈ fx, VVx (· = g) x KO := fun x hx => by
    obtain ⟨d, hd⟩ := hfx x hx
    exact ⟨d, hd.kq kp3O⟩
  have hpO := kp3O _ _ hpg hp3
  have hoO := ho3.kq kp3O
  have kp0O : Kp g H KO := kp03.trans kp3O
  have itO := hoO.it hn5
  refine vs_ret (P := fun v H' => ∃ b acc, v = .ref b ∧ KO b = none ∧ H' b = some (.lst (fx ++ acc)) ∧ acc.length = 10 ∧ ∀ x ∈ acc, VVx (· = g) x H') (vn_op op_cat (Pa := Is (.ref fb)) (lv 4) (vn_lcL (i := 8) (xs := xx) (fun D j acc H' => acc.length = j ∧ ∀ x ∈ acc, VVx (fun a => a = g ∨ a = D) x H') sc53.nd (llv (⟨l, rfl, sq_of hO⟩ : isL K xx (.ref l) KO) (lv 7)) (by omega)
    (blkOk_by (own := [("_law_beside", 8)]) (N := ["_law_generator_here", "_law_pair", "_law_value", "_law_at", "_law_found", "_law_item", "_law_far", "_law_odd", "_law_beside"]) (sc := defScope (top 53)) (by decide +kernel)) (fun _ _ _ _ _ => pg_name (i := 8) sc53.nd rfl (Or.inl rfl)) (fun _ => rfl) (fun D H2 _ _ => ⟨rfl, fun x h => by cases h⟩) ?_) stb_is ?_) fun v6 H6 e6 ⟨b, acc, eb, hb0, hb, hal, hax⟩ => ?_
  · intro D j x acc H' hD e hd hj ⟨hR1, hR2⟩
    have hxm : x ∈ xx := List.mem_of_getElem? hj
    obtain ⟨dx, hdx⟩ := hodO x hxm
    have hx' : ItX (fun a => a = g ∨ a = D) x H' := ⟨dx, (ItV.apart hD hdx).kq (.of e)⟩
    have hitm : ∀ y ∈ rfs ps, ItX (fun a => a = g ∨ a = D) y H' := fun y hy => by
      obtain ⟨d, hd⟩ := itO y hy
      exact ⟨d, (ItV.apart hD hd).kq (.of e)⟩
    have hgH := Gn.ex e hgO
    have hplH : isL K (rfs ps) (.ref p) H' := ⟨p, rfl, sq_of (e _ _ hpO)⟩
    have c1 := cutl none (some (at_ : Int))
    have c2 := cutl (some ((at_ : Int) + 1)) none
    refine ⟨true, newL H' ((cutV (rfs ps) none (some (at_ : Int)) ++ [x]) ++ cutV (rfs ps) (some ((at_ : Int) + 1)) none), fun _ _ _ _ _ => vts_nil, fun _ => ⟨fun _ _ _ _ _ => vn_catS (xs := cutV (rfs ps) none (some (at_ : Int)) ++ [x]) ((vn_catS (ys := [x]) ((vn_sl (llv hplH (lv 2)) po_none (po_some pe_any) eo_none ((lv 3 : VE _ _ _ _ (.int (at_ : Int))).ev)).imp fun _ _ _ h => h.l) ((vn_lst (va1 (lv 8 : VE _ _ _ _ x) stb_is) (fun _ _ _ _ h => h) fun vs _ ⟨_, e, _⟩ => by rw [e]; simp).imp fun v' H' _ ⟨q, xs, e, _, hq, y, ex, ev⟩ => ⟨q, e, sq_of (by rw [hq, ex, show y = _ from ev])⟩) (by simp only [List.length_singleton]; omega)).imp fun _ _ _ h => h.l) ((vn_sl (llv hplH (lv 2)) (po_some pe_any) po_none ((ve_add (lv 3) ve_int : VE _ _ _ _ (.int ((at_ : Int) + 1))).ev) eo_none).imp fun _ _ _ h => h.l) (by simp only [List.length_append, List.length_singleton]; omega), fun v1 H1 e1 hv1 => ?_⟩, fun h => by cases h⟩
    obtain ⟨a, rfl, ha0, ha⟩ := hv1
    have haD : a ≠ D := fun z => by rw [z, hd] at ha0; cases ha0
    have kqD : Kq (fun a => a = g ∨ a = D) H1 (upd H1 D (.lst (acc ++ [V.ref a]))) := fun b o hb ho => by rw [upd_ne fun z => hb (.inr z)]; exact ho
    refine ⟨by rw [List.length_append, hR1]; rfl, fun y hy => ?_⟩
    rcases List.mem_append.mp hy with hy | hy
    · obtain ⟨d, hd⟩ := hR2 y hy
      exact ⟨d, (hd.kq (.of e1)).kq kqD⟩
    · rw [List.mem_singleton.mp hy]
      obtain ⟨d, hd⟩ : VVx (fun a => a = g ∨ a = D) (.ref a) H1 := vv_list (fun z => z.elim (Kp.ne hgH ha0) haD) ha (fun y hy => by
        refine stb_ItX _ _ _ e1 ?_
        rcases List.mem_append.mp hy with hy | hy
        · rcases List.mem_append.mp hy with hy | hy
          · exact hitm y (cutV_mem _ _ _ y hy)
          · rw [List.mem_singleton.mp hy]; exact hx'
        · exact hitm y (cutV_mem _ _ _ y hy)) (by simp only [List.length_append, List.length_singleton]; omega)
      exact ⟨d, hd.kq kqD⟩
  · rintro _ _ H5 e5 rfl ⟨D, acc, rfl, hD, hd, hR1, hR2⟩ Q' kk
    refine ⟨fb, D, fx, acc, rfl, rfl, e5 _ _ hfO, hd, sz_of (by omega), fun b hb => kk _ _ (Ex.new hb) ⟨b, acc, rfl, fresh_back e5 hb, upd_same, by omega, fun x hx => ?_⟩⟩
    obtain ⟨d, hd'⟩ := hR2 x hx
    exact stb_VVx _ _ _ (Ex.new hb) ⟨d, hd'.weak fun a z => .inl z⟩
  · rw [eb]
    have hall : ∀ x ∈ fx ++ acc, VVx (· = g) x H6 := fun x hx => by
      rcases List.mem_append.mp hx with hx | hx
      · exact stb_VVx _ _ _ e6 (hfxO x hx)
      · exact hax x hx
    obtain ⟨zs, ezs, hzs⟩ := choose_VV hall
    have hg6 := Gn.ex e6 hgO
    refine q zs b H6 (kp0O.trans (Kp.of e6)) (hg6.mono (by omega)) (kp0O.none' hg hgO hb0) (by rw [← ezs]; exact hb) hzs ?_
    have := congrArg List.length ezs
    rw [List.length_append, List.length_map] at this
    omega
end
end W47
namespace W47
open PySem PySem.Spec PyProof.Rows L2 Evl C47
/-! ### lists of orders, away from some addresses -/
def LLat (N : NA) (os : List (List Int)) : PV := fun v H => ∃ p ps, v = .ref p ∧ ¬ N p ∧ H p = some (.lst (ps.map V.ref)) ∧ Paired (fun a o => ¬ N a ∧ H a = some (.lst (isI o))) ps os
theorem LLat.kq {N : NA} {os : List (List Int)} {v : V} {H H' : Hp} (k : Kq N H H') (h : LLat N os v H) : LLat N os v H' := by
  obtain ⟨p, ps, h1, h2, h3, h4⟩ := h
  exact ⟨p, ps, h1, h2, k _ _ h2 h3, paired_imp h4 fun a o ⟨q1, q2⟩ => ⟨q1, k _ _ q1 q2⟩⟩
theorem LLat.weak {N N' : NA} {os : List (List Int)} {v : V} {H : Hp} (k : ∀ a, N' a → N a) (h : LLat N os v H) : LLat N' os v H := by
  obtain ⟨p, ps, h1, h2, h3, h4⟩ := h
  exact ⟨p, ps, h1, fun z => h2 (k _ z), h3, paired_imp h4 fun a o ⟨q1, q2⟩ => ⟨fun z => q1 (k _ z), q2⟩⟩
theorem stb_LL {N : NA} {os : List (List Int)} : Stb (LLat N os) := fun _ _ _ e h => h.kq (.of e)
theorem newLL.at {N : NA} {os : List (List Int)} {v : V} {H0 H : Hp} (h : newLL H0 os v H) (hN : ∀ a, N a → H0 a ≠ none) : LLat N os v H := by
  obtain ⟨p, ps, h1, h2, h3, h4⟩ := h
  exact ⟨p, ps, h1, fun z => hN _ z h2, h3, paired_imp h4 fun a o ⟨q1, q2⟩ => ⟨fun z => hN _ z q1, q2⟩⟩
theorem LLat.l {K : PySem.W.Frag} {N : NA} {os : List (List Int)} {v : V} {H : Hp} (h : LLat N os v H) : isLL K os v H := by
  obtain ⟨p, ps, h1, _, h3, h4⟩ := h
  exact ⟨p, ps, h1, sq_of h3, paired_imp h4 fun a o q => sq_of q.2⟩
theorem LLat.d {K : PySem.W.Frag} {N : NA} {os : List (List Int)} {v : V} {H : Hp} (h : LLat N os v H) : isD K (dLL os) v H := (h.l (K := K)).d
theorem eqv_dLL : ∀ a b : List (List Int), PyData.eqv (dLL a) (dLL b) = decide (a = b) := by
  have key : ∀ a b : List (List Int), PyData.eqvAll (a.map dL) (b.map dL) = decide (a = b) := by
    intro a
    induction a with
    | nil => intro b; cases b <;> simp [PyData.eqvAll]
    | cons x a ih =>
      intro b
      cases b with
      | nil => simp [PyData.eqvAll]
      | cons y b =>
        simp only [List.map_cons, PyData.eqvAll, ih, eqv_dL, List.cons.injEq]
        by_cases h1 : x = y <;> by_cases h2 : a = b <;> simp [h1, h2]
  intro a b
  show PyData.eqv (.list (a.map dL)) (.list (b.map dL)) = _
  simp only [PyData.eqv]
  exact key a b
theorem KAt.kp {C : Addr} {k : Kd} {g : Addr} {n : Nat} {v : V} {H H1 : Hp} (h : KAt C k v H) (hg : Gn g n H) (kp : Kp g H H1) : KAt C k v H1 := by
  obtain ⟨p, dx, h1, h2⟩ := h
  refine ⟨p, dx, h1, kp _ _ (fun z => ?_) h2⟩
  obtain ⟨x, s, c, q, _⟩ := hg
  rw [z, q] at h2
  cases h2
/-- a climb told: its orders -/
theorem climb_ords {k : Kd} (hk : k.ok) (hn : k.n ≤ 5) {o1 o2 : List Int} (v2 : VL k o2) (h : LeK k o1 o2) (hc : crs k o2 ≤ 10) : ∀ v ∈ climbL k S0 o1 o2, v.length = k.n ∧ Big 60 v := fun v hv => by
  obtain ⟨h1, h2, h3⟩ := climbL_ok hk (S := S0) h
  exact ⟨VL.len (h2 v hv), big_few hk (h2 v hv) (climb_few h1 hc v hv) hn⟩
theorem ords_of {g : Addr} {k : Kd} {H : Hp} {ps : List Addr} {os : List (List Int)} (h : Paired (fun a o => ¬ (a = g) ∧ H a = some (.lst (isI o))) ps os) (ho : ∀ o ∈ os, o.length = k.n ∧ Big 60 o) : Ords (· = g) k H (ps.zip os) ∧ rfs (ps.zip os) = ps.map V.ref ∧ (ps.zip os).length = os.length := by
  obtain ⟨z1, z2, z3⟩ := paired_zip h
  refine ⟨fun q hq => ?_, ?_, ?_⟩
  · obtain ⟨h1, h2⟩ := z3 q hq
    have : q.2 ∈ os := by rw [← z2]; exact List.mem_map_of_mem hq
    exact ⟨h1, h2, (ho _ this).1, (ho _ this).2⟩
  · show (ps.zip os).map (fun q => V.ref q.1) = _
    have e : (ps.zip os).map (fun q => V.ref q.1) = ((ps.zip os).map (·.1)).map V.ref := by rw [List.map_map]; rfl
    rw [e, z1]
  · have := congrArg List.length z2
    rwa [List.length_map] at this
section
variable {X : Cx} {σ : L2.St} {H H' : Hp} {a b e : Expr} {es : List Expr} {pos p : Pos} {D : Ends} {rest body : List Stmt} {x y : Str}
/-- x, y = a, b from where we stand -/
theorem gs_par {i j : Nat} {px py pt pt2 : Pos} {kt k2} (hN : X.N.Nodup) (h : anyE X a σ H fun v H1 => anyE X b σ H1 fun w H2 => VS X rest D ((σ.set i (some v)).set j (some w)) H2)
    (hij : i ≠ j := by decide) (hc : X.calm = true := by rfl) (hi : X.N[i]? = some x := by rfl) (hj : X.N[j]? = some y := by rfl) (hx : X.env.scope.names.lookup x = some .local := by rfl) (hy : X.env.scope.names.lookup y = some .local := by rfl)
    (hw : swappedStores [.Tuple [.Name x px, .Name y py] kt pt] (.Tuple [a, b] k2 pt2) X.env = pure (some [x, y]) := by rfl)
    (hs : swapsWithSole [.Tuple [.Name x px, .Name y py] kt pt] (.Tuple [a, b] k2 pt2) pos.line X.env = pure false := by rfl)
    (hst : starEach [a, b] X.env = (false, eval a X.env) :: starEach [b] X.env := by rfl) (hst2 : starEach [b] X.env = (false, eval b X.env) :: starEach [] X.env := by rfl) :
    VS X (.Assign [.Tuple [.Name x px, .Name y py] kt pt] (.Tuple [a, b] k2 pt2) pos :: rest) D σ H :=
  vs_cons (ps_par hc hN hi hj hij hx hy pa_any hw hs) (ga_cons (ge_mono h fun v H1 h => ga_cons (ge_mono h fun w H2 h => ga_nil ⟨v, w, rfl, h⟩) hst2) hst)
/-- for x in a call that yields a list -/
theorem gs_for {l : Expr} {i : Nat} {p' : Pos} {n : Str} (hN : X.N.Nodup) (h : anyE X l σ H fun v H1 => ∃ (a : Addr) (xs : List V) (Pv : Nat → L2.St → Hp → Prop), v = .ref a ∧ SqL X.K H1 a xs ∧ Pv 0 σ H1 ∧ (∀ j σ' H', j ≤ xs.length → Pv j σ' H' → SqL X.K H' a xs) ∧
      (∀ j x σ' H', xs[j]? = some x → Pv j σ' H' → VS X body { D with nx := Pv (j + 1), ct := Pv (j + 1), bk := fun σ' H' => VS X rest D σ' H' } (σ'.set i (some x)) H') ∧ ∀ σ' H', Pv xs.length σ' H' → VS X rest D σ' H')
    (hp : PassesOwn (model X.prog X.w) X.A X.env X.xe := by exact PassesOwn.never) (hc : X.calm = true := by rfl) (hi : X.N[i]? = some n := by rfl) (hxl : Loc X.env.scope n := by first | exact Or.inl rfl | exact Or.inr rfl) (hf : X.fn n = true ∨ X.env.scope.names.lookup n = some .local := by first | exact .inl rfl | exact .inr rfl)
    (hit : ∀ x, foldedSetIterable l X.env x = pure x := by intro _; rfl) : VS X (.For (.Name n p') l body [] pos :: rest) D σ H :=
  vs_cons (ps_for hp hc (pi_list pe_any) (pg_name hN hi hxl hf) pss_any hit) (ge_mono h fun v H1 ⟨a, xs, Pv, ev, hx, h0, hl, hs, hd⟩ => ⟨a, ev, ⟨xs, hx⟩, for_list Pv h0 hl hs hd⟩)
end
end W47
namespace W47
open PySem PySem.Spec PyProof.Rows L2 Evl C47
/-- what the law's right leans on -/
structure LD (P : Program) (w : World) (K : PySem.W.Frag) (mg : Str → Option Value) (base : Heap) (C : Addr) : Prop where
  B : Bl mg
  T : TK K mg C
  kind : DI P w K mg base C 4 (spKI C)
  rand : DRand P w K mg base
  lkind : DF P w K mg base "_law_kind" 3 ["_law_generator_here"] spLKind
  lrow : DF P w K mg base "_law_row" 3 ["_law_generator_here", "_law_pair", "_law_most"] spLRow
  lgr : DF P w K mg base "_law_greedy" 2 ["_law_pair", "_law_row_here"] (spOf (prLGr K))
  lmade : DF P w K mg base "_law_made" 2 ["_law_pair", "_law_row_here"] (spOf (prLMade K))
  lor : DF P w K mg base "_law_order" 4 ["_law_generator_here", "_law_pair", "_law_most"] spLOr
  lstart : DF P w K mg base "_law_start" 1 ["_law_pair"] (spOf prLStart)
  lic : DF P w K mg base "_law_is_climb" 4 ["_law_pair", "_law_one", "_law_other", "_law_value"] (spOf (prLIC K))
  lbe : DF P w K mg base "_law_bent" 5 ["_law_generator_here", "_law_pair", "_law_value"] spLBe
  climb : DF P w K mg base "climb" 7 ["kind", "one", "other"] (spOf (prClimb K C))
  climbK : DFK P w K mg base "climb" 7 ["kind", "one", "other"] (spOf (prClimb K C))
  bn : DF P w K mg base "is_beneath" 7 ["kind", "one", "other"] (spOf (prBn K C))
  ic : DF P w K mg base "is_climb" 7 ["kind", "one", "other", "value"] (spOf (prIC K C))
  icK : DFK P w K mg base "is_climb" 7 ["kind", "one", "other", "value"] (spOf (prIC K C))
abbrev NR : List Str := ["_law_generator_here", "_law_pair", "_law_kind_here", "_law_row_here", "_law_other", "_law_turn", "_law_one", "_law_kept", "_law_told", "_law_value", "_law_before", "_law_due", "_law_item", "_law_whole", "_law_given", "_law_asked", "_law_handed", "_law_start_here", "_law_step_here"]
theorem sc54 : FnScope NR ["_law_generator_here"] (defScope (top 54)) := ⟨rfl, rfl, rfl, by decide +kernel, rfl, by decide +kernel, by decide +kernel⟩
section
variable {X : Cx} {σ : L2.St} {H H' : Hp} {a b e : Expr} {es : List Expr} {pos p : Pos} {C : Addr} {k : Kd} {o1 o2 : List Int}
/-- climb(kind, one, other), where one lies below other -/
theorem vn_climb (D : DF X.prog X.w X.K X.mg X.base "climb" 7 ["kind", "one", "other"] (spOf (prClimb X.K C))) (hr : Room 7 X.A) {e1 e2 e3 : Expr} (hk : k.ok) (hn : k.n ≤ 5) (v1 : VL k o1) (v2 : VL k o2) (c1 : crs k o1 ≤ 10) (c2 : crs k o2 ≤ 10) (h1 : VN X e1 σ H (KAt C k)) (h2 : VN X e2 σ H (isL X.K (isI o1))) (h3 : VN X e3 σ H (isL X.K (isI o2))) (hg : Gl X "climb" := by rfl)
    (hs : starEach [e1, e2, e3] X.env = (false, eval e1 X.env) :: starEach [e2, e3] X.env := by rfl) (hs2 : starEach [e2, e3] X.env = (false, eval e2 X.env) :: starEach [e3] X.env := by rfl) (hs3 : starEach [e3] X.env = (false, eval e3 X.env) :: starEach [] X.env := by rfl) (hpl : (backTo pos (starEach [e2, e3] X.env)).any (·.1) = false := by rfl) :
    VN X (.Call (.Name "climb" p) [e1, e2, e3] [] pos) σ H fun v' H' => (bel k o1 o2 = true ∧ newLL H (climbL k S0 o1 o2) v' H') ∨ (bel k o1 o2 = false ∧ v' = .non) :=
  vn_call D hr (va3 h1 h2 h3 stb_K stb_isL stb_isL hs hs2 hs3) (by
    rintro _ H2 e2 ⟨x, y, z, rfl, hx, hy, hz⟩
    exact ⟨_, ⟨x, y, z, k, o1, o2, rfl, hx, hy, hz, ⟨v1, by omega⟩, ⟨v2, by omega⟩, hk, by omega, rfl⟩, fun u H3 e3 eu => eu.imp (fun h => ⟨h.1, h.2.back e2⟩) id⟩) hg (by decide) hs hpl
theorem vn_climbLe (D : DF X.prog X.w X.K X.mg X.base "climb" 7 ["kind", "one", "other"] (spOf (prClimb X.K C))) (hr : Room 7 X.A) {e1 e2 e3 : Expr} (hk : k.ok) (hn : k.n ≤ 5) (hle : LeK k o1 o2) (v1 : VL k o1) (v2 : VL k o2) (c1 : crs k o1 ≤ 10) (c2 : crs k o2 ≤ 10) (h1 : VN X e1 σ H (KAt C k)) (h2 : VN X e2 σ H (isL X.K (isI o1))) (h3 : VN X e3 σ H (isL X.K (isI o2))) (hg : Gl X "climb" := by rfl)
    (hs : starEach [e1, e2, e3] X.env = (false, eval e1 X.env) :: starEach [e2, e3] X.env := by rfl) (hs2 : starEach [e2, e3] X.env = (false, eval e2 X.env) :: starEach [e3] X.env := by rfl) (hs3 : starEach [e3] X.env = (false, eval e3 X.env) :: starEach [] X.env := by rfl) (hpl : (backTo pos (starEach [e2, e3] X.env)).any (·.1) = false := by rfl) :
    VN X (.Call (.Name "climb" p) [e1, e2, e3] [] pos) σ H (newLL H (climbL k S0 o1 o2)) :=
  (vn_climb D hr hk hn v1 v2 c1 c2 h1 h2 h3 hg hs hs2 hs3 hpl).imp fun v H' _ h => by
    rcases h with ⟨_, h⟩ | ⟨h, _⟩
    · exact h
    · rw [(bel_le hk v1 v2).mpr hle] at h; cases h
/-- [x, y], two orders, as data -/
theorem vn_two {e1 e2 : Expr} (h1 : VN X e1 σ H (isL X.K (isI o1))) (h2 : VN X e2 σ H (isL X.K (isI o2))) (hs : starEach [e1, e2] X.env = (false, eval e1 X.env) :: starEach [e2] X.env := by rfl) (hs2 : starEach [e2] X.env = (false, eval e2 X.env) :: starEach [] X.env := by rfl) : VN X (.List [e1, e2] pos) σ H (isD X.K (dLL [o1, o2])) :=
  (vn_lst (va2 h1 h2 stb_isL stb_isL hs hs2) (fun vs H H' e ⟨v, w, h, p1, p2⟩ => ⟨v, w, h, stb_isL _ _ _ e p1, stb_isL _ _ _ e p2⟩) fun vs _ ⟨_, _, e, _⟩ => by rw [e]; simp).imp fun v H' _ ⟨q, xs, ev, _, hq, x, y, ex, hx, hy⟩ => by
    subst ev ex
    exact .lst (sq_of hq) (.cons hx.d (.cons hy.d .nil))
theorem vn_one1 {e1 : Expr} (h1 : VN X e1 σ H (isL X.K (isI o1))) (hs : starEach [e1] X.env = (false, eval e1 X.env) :: starEach [] X.env := by rfl) : VN X (.List [e1] pos) σ H (isD X.K (dLL [o1])) :=
  (vn_lst (va1 h1 stb_isL hs) (fun vs H H' e ⟨v, h, p1⟩ => ⟨v, h, stb_isL _ _ _ e p1⟩) fun vs _ ⟨_, e, _⟩ => by rw [e]; simp).imp fun v H' _ ⟨q, xs, ev, _, hq, x, ex, hx⟩ => by
    subst ev ex
    exact .lst (sq_of hq) (.cons hx.d .nil)
/-- [list(item) for item in xs] -/
def CpR (H : Hp) (os : List (List Int)) : Addr → Nat → List V → Hp → Prop := fun D j acc H' => ∃ zs : List (Addr × List Int), acc = rfs zs ∧ zs.map (·.2) = os.take j ∧ ∀ z ∈ zs, z.1 ≠ D ∧ H z.1 = none ∧ H' z.1 = some (.lst (isI z.2))
theorem copies_turn {os : List (List Int)} {ps : List Addr} {i : Nat} {n : Str} {p1 p2 : Pos} {scope : Scope} (hB : X.mg "list" = none) (hps : Paired (fun a o => SqL X.K H a (isI o)) ps os)
    (hlv : BK X scope fun Y => ∀ x H', VE Y (.Name n p2) ((wipe σ [i]).set i (some x)) H' x) (hgl : BK X scope fun Y => Gl Y "list") (hst : BK X scope fun Y => starEach [.Name n p2] Y.env = (false, eval (.Name n p2) Y.env) :: starEach [] Y.env ∧ (backTo pos (starEach [] Y.env)).any (·.1) = false) :
    ∀ D j x acc H', H D = none → Ex H H' → H' D = some (.lst acc) → (ps.map V.ref)[j]? = some x → CpR H os D j acc H' → LcTurn X scope [] (.Call (.Name "list" p1) [.Name n p2] [] pos) ((wipe σ [i]).set i (some x)) H' D acc fun acc' H2 => CpR H os D (j + 1) acc' H2 := by
  have hlen := paired_len hps
  rintro D j x acc H' hD e hd hj ⟨zs, rfl, z1, z2⟩
  obtain ⟨hjl, ex⟩ := List.getElem?_eq_some_iff.mp hj
  rw [List.length_map] at hjl
  have hjo : j < os.length := by omega
  obtain ⟨a, ea, haj⟩ := isLL_get (p := 0) hps j hjo
  have ex' : x = .ref a := by
    rw [List.getElem?_map, ea] at hj
    exact (Option.some.inj hj).symm
  subst ex'
  have hit' : isL X.K (isI os[j]) (.ref a) H' := ⟨a, rfl, ex_l e haj⟩
  refine ⟨true, newL H' (isI os[j]), fun _ _ _ _ _ => vts_nil, fun _ => ⟨fun s Hs C' cl fp => vn_list hB (llv hit' (hlv s Hs C' cl fp _ _)) (hgl s Hs C' cl fp) (hst s Hs C' cl fp).1 (hst s Hs C' cl fp).2, fun v1 H2 e2 hv1 => ?_⟩, fun h => by cases h⟩
  obtain ⟨b, rfl, hb0, hb⟩ := hv1
  have hbD : b ≠ D := fun z => by rw [z, hd] at hb0; cases hb0
  refine ⟨zs ++ [(b, os[j])], by simp [rfs], by rw [List.map_append, z1, List.take_succ, List.getElem?_eq_getElem hjo]; rfl, fun z hz => ?_⟩
  rcases List.mem_append.mp hz with hz | hz
  · obtain ⟨g1, g2, g3⟩ := z2 z hz
    exact ⟨g1, g2, by rw [upd_ne g1]; exact e2 _ _ g3⟩
  · rw [List.mem_singleton.mp hz]
    exact ⟨hbD, fresh_back e hb0, by rw [upd_ne hbD]; exact hb⟩
theorem copies_done {os : List (List Int)} {ps : List Addr} (hps : Paired (fun a o => SqL X.K H a (isI o)) ps os) {v : V} (h : ∃ D acc, v = .ref D ∧ H D = none ∧ H' D = some (.lst acc) ∧ CpR H os D (ps.map V.ref).length acc H') : newLL H os v H' := by
  have hlen := paired_len hps
  obtain ⟨D, acc, rfl, hD, hd, zs, rfl, z1, z2⟩ := h
  rw [List.length_map, hlen, List.take_length] at z1
  refine ⟨D, zs.map (·.1), rfl, hD, by rw [hd, List.map_map]; rfl, ?_⟩
  rw [← z1]
  exact paired_of zs fun z hz => ⟨(z2 z hz).2.1, (z2 z hz).2.2⟩
end
end W47
namespace W47
open PySem PySem.Spec PyProof.Rows L2 Evl C47
abbrev isG (g : Addr) : NA := fun a => a = g
def spLRi : Sp := fun vs H Q _ => ∃ (g : Addr), vs = [.ref g] ∧ Gn g 2000 H ∧ ∀ H', Kp g H H' → Q (.bl true) H'
/-- the part behind the loop; a turn; what is bent -/
def tailR : List Stmt := (defBody (top 54)).drop 4
def turnR : List Stmt := match (defBody (top 54)).getD 3 (.Pass ⟨0, 0, 0, 0⟩) with
  | .For _ _ b _ _ => b
  | _ => []
def argR : Expr := match turnR.getD 6 (.Pass ⟨0, 0, 0, 0⟩) with
  | .For _ (.Call _ [_, _, a] _ _) _ _ _ => a
  | _ => .Constant .none 0 ⟨0, 0, 0, 0⟩
theorem ref_non (p : Addr) : decide (V.ref p = V.non) = false := decide_eq_false (by intro h; cases h)
section
variable {P : Program} {w : World} {K : PySem.W.Frag} {mg : Str → Option Value} {base : Heap} {C : Addr}
abbrev XR (P : Program) (w : World) (K : PySem.W.Frag) (mg : Str → Option Value) (base : Heap) (f : Addr) (cdv : Value) (A : Around) (outer : List Env) (s : Shared) (H : Hp) (E : XK) : Cx := cx P w K mg base NR "_law_right" (defScope (top 54)) f cdv A outer s H E
variable {f : Addr} {cdv : Value} {A : Around} {outer : List Env} {s : Shared} {HE : Hp} {E : XK} {D : Ends} {g : Addr} {pv_ kv_ : V} {k : Kd} {a1 ar ao : Addr} {o1 o2 : List Int}
/-- the values that are bent -/
theorem right_bent (L : LD P w K mg base C) (hgd : (XR P w K mg base f cdv A outer s HE E).A.guards = some []) (hr : Room 7 (XR P w K mg base f cdv A outer s HE E).A) (hLK : LK k) {n : Nat} {v5 v7 v8 : V} {c9 c10 c11 c12 c13 : Option V} {H : Hp}
    (hn : n ≤ 600000) (hg : Gn g n H) (hp : PAt k pv_ H) (hkd : KAt C k kv_ H) (ha1 : H a1 = some (.lst (isI o1))) (ha1g : a1 ≠ g) (hao : H ao = some (.lst (isI o2))) (haog : ao ≠ g) (hV1 : VL k o1) (hV2 : VL k o2) (hc1 : crs k o1 ≤ 10) (hc2 : crs k o2 ≤ 10)
    (harg : VN (XR P w K mg base f cdv A outer s HE E) argR [some (.ref g), some pv_, some kv_, some (.ref ar), some (.ref ao), some v5, some (.ref a1), some v7, some v8, c9, c10, c11, c12, c13, none, none, none, none, none] H fun v H' => ∃ p ps, v = .ref p ∧ p ≠ g ∧ H' p = some (.lst (rfs ps)) ∧ Ords (isG g) k H' ps ∧ 1 ≤ ps.length ∧ ps.length ≤ 15)
    (rest : ∀ c9 c10 c11 H', Kp g H H' → Gn g (n + 20) H' → VS (XR P w K mg base f cdv A outer s HE E) (turnR.drop 7) D [some (.ref g), some pv_, some kv_, some (.ref ar), some (.ref ao), some v5, some (.ref a1), some v7, some v8, c9, c10, c11, c12, c13, none, none, none, none, none] H') :
    VS (XR P w K mg base f cdv A outer s HE E) (turnR.drop 6) D [some (.ref g), some pv_, some kv_, some (.ref ar), some (.ref ao), some v5, some (.ref a1), some v7, some v8, c9, c10, c11, c12, c13, none, none, none, none, none] H := by
  have hu64 := hr.units
  obtain ⟨hk, hn5, hrg⟩ := hLK
  refine gs_for (i := 9) sc54.nd (ge_call L.lbe (hr.mono (by decide)) ?_)
  refine ga_cons ((lv 0 : VE _ _ _ _ (.ref g)).here fun x1 H1 e1 ex => ?_)
  cases ex
  refine ga_cons ((lv 1 : VE _ _ _ _ pv_).here fun x2 H2 e2 ex => ?_)
  have ex : pv_ = x2 := (show x2 = pv_ from ex).symm
  subst ex
  refine ga_cons ((harg.up (e1.trans e2)).here fun x3 H3 e3 hx3 => ga_nil ?_)
  obtain ⟨p, ps, rfl, hpg, hpp, hps, hl1, hl2⟩ := hx3
  have e03 := (e1.trans e2).trans e3
  refine ⟨g, pv_, k, n, p, ps, rfl, Gn.ex e03 hg, stb_P _ _ _ e03 hp, ⟨hk, hn5, hrg⟩, hn, hpg, hpp, hps, hl1, hl2, fun zs b H4 kp4 hg4 hb0 hb hzs hzl => ?_⟩
  have kp04 : Kp g H H4 := (Kp.of e03).trans kp4
  have hp4 := hp.kp hg kp04
  have hkd4 := hkd.kp hg kp04
  have ha14 := kp04 _ _ ha1g ha1
  have hao4 := kp04 _ _ haog hao
  refine ⟨b, zs.map (·.1), fun i σ' H' => ∃ c9 c10 c11, σ' = [some (.ref g), some pv_, some kv_, some (.ref ar), some (.ref ao), some v5, some (.ref a1), some v7, some v8, c9, c10, c11, c12, c13, none, none, none, none, none] ∧ Ex H4 H', rfl, sq_of hb, ⟨c9, c10, c11, rfl, Ex.refl _⟩, fun i σ' H' _ ⟨_, _, _, _, e⟩ => sq_of (e _ _ hb), ?_, fun σ' H' ⟨c9, c10, c11, eσ, e⟩ => by rw [eσ]; exact rest c9 c10 c11 H' (kp04.trans (Kp.of e)) (Gn.ex e hg4)⟩
  rintro i x σ' H' hi ⟨c9, c10, c11, rfl, e⟩
  obtain ⟨hil, ex⟩ := List.getElem?_eq_some_iff.mp hi
  rw [List.length_map] at hil
  have ex : x = (zs[i]).1 := by rw [← ex, List.getElem_map]
  subst ex
  have hv := hzs _ (List.getElem_mem hil)
  generalize (zs[i]).1 = x at hv
  generalize (zs[i]).2 = d at hv
  have shw := (hv.dp (K := K)).2
  have hvd : ∀ {H''}, Ex H4 H'' → VDp K H'' x d := fun e' => (hv.dp (K := K)).1.mono e'
  have hxv : ∀ {σ2 : L2.St} {H'' pos}, Ex H4 H'' → σ2[9]? = some (some x) → VN (XR P w K mg base f cdv A outer s HE E) (.Name "_law_value" pos) σ2 H'' (isV K d) := fun {σ2 H'' pos} e' h => (lv 9 h : VE (XR P w K mg base f cdv A outer s HE E) (.Name "_law_value" pos) σ2 H'' x).imp fun u H3 e3 eu => by rw [show u = x from eu]; exact hvd (e'.trans e3)
  have o60 : ∀ {o}, VL k o → crs k o ≤ 10 → Okd k o := fun v c => ⟨v, by omega⟩
  have lI : ∀ {a : Addr} {o : List Int} {H''}, H4 a = some (.lst (isI o)) → Ex H4 H'' → isL K (isI o) (.ref a) H'' := fun h e' => ⟨_, rfl, sq_of (e' _ _ h)⟩
  refine vs_par (i := 10) (j := 11) (P1 := Is (.str d.shown)) (P2 := Is (.bl (clB k o1 o2 d))) sc54.nd (ve_repr hgd hu64 L.B.repr (hxv e rfl) shw) (vn_call L.lic (hr.mono (by decide)) (va4 (pv (stb_P _ _ _ e hp4) (lv 1)) (llv (lI ha14 e) (lv 6)) (llv (lI hao4 e) (lv 4)) (hxv e rfl) stb_P stb_isL stb_isL stb_isV) (by
    rintro _ H5 e5 ⟨y1, y2, y3, y4, rfl, h1, h2, h3, h4⟩
    exact ⟨_, ⟨y1, y2, y3, y4, k, o1, o2, d, rfl, h1, h2, h3, hc2, hk, hn5, h4, rfl⟩, fun u H6 e6 eu => eu⟩)) stb_is stb_is fun _ _ H5 e5 ev ew => ?_
  cases ev
  cases ew
  have e45 := e.trans e5
  refine vs_no (c := false) (VT.to (vw_or (c := false) (VT.to (vt_ne (ve_reprB L.B.repr (vn_call L.ic hr (va4 (P1 := KAt C k) (P2 := isL K (isI o1)) (P3 := isL K (isI o2)) (P4 := isV K d) (kv (i := 0) (stb_K _ _ _ e45 hkd4) (lv 2)) (llv (lI ha14 e45) (lv 6)) (llv (lI hao4 e45) (lv 4)) (hxv e45 rfl) stb_K stb_isL stb_isL stb_isV) (P := Is (.bl (clB k o1 o2 d))) (by
    rintro _ H6 e6 ⟨y1, y2, y3, y4, rfl, h1, h2, h3, h4⟩
    exact ⟨_, ⟨y1, y2, y3, y4, k, o1, o2, d, rfl, h1, h2, h3, o60 hV1 hc1, o60 hV2 hc2, hk, by omega, h4, rfl⟩, fun u H7 e7 eu => eu⟩))) (ve_reprB L.B.repr (lv 11))) (by rw [decide_eq_true rfl]; rfl)) fun _ => vw_or (c := false) (VT.to (vt_ne (vn_callK4 L.icK hr (hxv e45 rfl) (llv (lI hao4 e45) (lv 4)) (llv (lI ha14 e45) (lv 6)) (kv (i := 0) (stb_K _ _ _ e45 hkd4) (lv 2)) stb_isV stb_isL stb_isL (P := Is (.bl (clB k o1 o2 d))) (by
    rintro y1 y2 y3 y4 H6 e6 h1 h2 h3 h4
    exact ⟨_, ⟨y4, y3, y2, y1, k, o1, o2, d, rfl, h4, h3, h2, o60 hV1 hc1, o60 hV2 hc2, hk, by omega, h1, rfl⟩, fun u H7 e7 eu => eu⟩)) (lv 11)) (by rw [decide_eq_true rfl]; rfl)) fun _ => vw_or1 (c := false) (VT.to (vt_ne (ve_repr hgd hu64 L.B.repr (hxv e45 rfl) shw) (lv 10)) (by rw [decide_eq_true rfl]; rfl))).t rfl) rfl fun H6 e6 => vs_nil ⟨_, _, _, rfl, e45.trans e6⟩
end
end W47
namespace W47
open PySem PySem.Spec PyProof.Rows L2 Evl C47
section
variable {P : Program} {w : World} {K : PySem.W.Frag} {mg : Str → Option Value} {base : Heap} {C : Addr}
variable {f : Addr} {cdv : Value} {A : Around} {outer : List Env} {s : Shared} {HE : Hp} {E : XK} {D : Ends} {g : Addr} {pv_ kv_ : V} {k : Kd} {a1 ar ao : Addr} {o1 o2 : List Int}
theorem ok60 {k : Kd} {o : List Int} (v : VL k o) (c : crs k o ≤ 10) : Okd k o := ⟨v, by omega⟩
/-- a turn, from where one stands -/
theorem right_turn (L : LD P w K mg base C) (hgd : (XR P w K mg base f cdv A outer s HE E).A.guards = some []) (hr : Room 7 (XR P w K mg base f cdv A outer s HE E).A) (hLK : LK k) {n j : Nat} {c7 c8 c9 c10 c11 c12 c13 : Option V} {H : Hp}
    (hn : n ≤ 600000) (hg : Gn g n H) (hp : PAt k pv_ H) (hkd : KAt C k kv_ H) (ha1 : H a1 = some (.lst (isI o1))) (ha1g : a1 ≠ g) (hao : H ao = some (.lst (isI o2))) (haog : ao ≠ g) (hV1 : VL k o1) (hV2 : VL k o2) (hc1 : crs k o1 ≤ 10) (hc2 : crs k o2 ≤ 10) (hle : j < 2 → LeK k o1 o2)
    (rest : ∀ c7 c8 c9 c10 c11 c12 c13 H', Kp g H H' → Gn g (n + 20) H' → D.nx [some (.ref g), some pv_, some kv_, some (.ref ar), some (.ref ao), some (.int (j : Int)), some (.ref a1), c7, c8, c9, c10, c11, c12, c13, none, none, none, none, none] H') :
    VS (XR P w K mg base f cdv A outer s HE E) (turnR.drop 2) D [some (.ref g), some pv_, some kv_, some (.ref ar), some (.ref ao), some (.int (j : Int)), some (.ref a1), c7, c8, c9, c10, c11, c12, c13, none, none, none, none, none] H := by
  have hu64 := hr.units
  obtain ⟨hk, hn5, hrg⟩ := hLK
  have lI : ∀ {a : Addr} {o : List Int} {H''}, H a = some (.lst (isI o)) → Ex H H'' → isL K (isI o) (.ref a) H'' := fun h e' => ⟨_, rfl, sq_of (e' _ _ h)⟩
  -- kept
  refine vs_set (i := 7) sc54.nd (P := LLat (isG g) [o1, o2]) ((vn_lst (va2 (vn_list L.B.list (llv (lI ha1 (Ex.refl _)) (lv 6))) (vn_list L.B.list (llv (lI hao (Ex.refl _)) (lv 4))) stb_newL stb_newL) (fun vs H H' e ⟨v, w, h, p1, p2⟩ => ⟨v, w, h, stb_newL _ _ _ e p1, stb_newL _ _ _ e p2⟩) fun vs _ ⟨_, _, e, _⟩ => by rw [e]; simp).imp fun v H' _ ⟨q, xs, ev, hq0, hq, x, y, ex, ⟨x1, ex1, hx0, hx⟩, ⟨y1, ey1, hy0, hy⟩⟩ => ⟨q, [x1, y1], ev, Kp.ne hg hq0, by rw [hq, ex, ex1, ey1]; rfl, .cons ⟨Kp.ne hg hx0, hx⟩ (.cons ⟨Kp.ne hg hy0, hy⟩ .nil)⟩) fun v7 H2 e2 hv7 => ?_
  have hg2 := Gn.ex e2 hg
  -- told
  refine vs_set (i := 8) sc54.nd (vn_climb L.climb hr hk hn5 hV1 hV2 hc1 hc2 (kv (i := 0) (stb_K _ _ _ e2 hkd) (lv 2)) (llv (lI ha1 e2) (lv 6)) (llv (lI hao e2) (lv 4))) fun v8 H3 e3 hv8 => ?_
  have e13 := e2.trans e3
  have hv73 := hv7.kq (.of e3)
  have two : ∀ {σ2 : L2.St} {H'' : Hp} {p1 p2 pos}, Ex H H'' → σ2[6]? = some (some (.ref a1)) → σ2[4]? = some (some (.ref ao)) → VN (XR P w K mg base f cdv A outer s HE E) (.List [.Name "_law_one" p1, .Name "_law_other" p2] pos) σ2 H'' (isD K (dLL [o1, o2])) := fun {σ2 H'' p1 p2 pos} e h6 h4 => vn_two (X := XR P w K mg base f cdv A outer s HE E) (llv (lI ha1 e) (lv 6 h6)) (llv (lI hao e) (lv 4 h4))
  rcases hv8 with ⟨hb, hv8⟩ | ⟨hb, rfl⟩
  · -- a climb is told
    have hleK := (bel_le hk hV1 hV2).mp hb
    obtain ⟨cl1, cl2, cl3⟩ := climbL_ok hk (S := S0) hleK
    have clo := climb_ords hk hn5 hV2 hleK hc2
    generalize hcl : climbL k S0 o1 o2 = cl at hv8 cl1 cl2 cl3 clo
    have hN : ∀ a, isG g a → H2 a ≠ none := fun a z q => by
      obtain ⟨x, sd, c, q1, _⟩ := hg2
      rw [show a = g from z, q1] at q; cases q
    have hv8' := newLL.at (N := fun a => isG g a ∨ H2 a ≠ none) hv8 (fun a z => z.elim (hN a) id)
    have hv8L := hv8.l (K := K)
    obtain ⟨p8, ps8, rfl, hp8, h8, hps8⟩ := id hv8'
    refine vs_no (c := false) (VT.to (vw_or (c := false) (VT.to (vt_ne (ve_notN (lv 8)) (vn_call L.bn hr (va3 (kv (i := 0) (stb_K _ _ _ e13 hkd) (lv 2)) (llv (lI ha1 e13) (lv 6)) (llv (lI hao e13) (lv 4)) stb_K stb_isL stb_isL) (P := Is (.bl (bel k o1 o2))) (by
      rintro _ H6 e6 ⟨y1, y2, y3, rfl, h1, h2, h3⟩
      exact ⟨_, ⟨y1, y2, y3, k, o1, o2, rfl, h1, h2, h3, ok60 hV1 hc1, ok60 hV2 hc2, hk, by omega, rfl⟩, fun u H7 e7 eu => eu⟩))) (by rw [ref_non, hb]; rfl)) fun _ => vw_or (c := false) (VT.to (vw_and (vt_lt (lv 5) ve_int) fun _ => vw_and1 (vt_isN (lv 8))).t (by rw [ref_non, Bool.and_false])) fun _ => vw_or1 (c := false) (VT.to (vt_neD hu64 (two e13 rfl rfl) ((lv 7 : VE _ _ _ _ v7).imp fun u H6 e6 eu => by rw [show u = v7 from eu]; exact (hv73.kq (.of e6)).d) (dLL_sh _).s (dLL_sh _).s) (by rw [eqv_dLL, decide_eq_true rfl]; rfl))).t rfl) rfl fun H4 e4 => ?_
    have e14 := e13.trans e4
    refine vs_no (c := false) (VT.to (vw_and (c := true) (c' := false) (VT.to (vt_notN (lv 8)) (by rw [ref_non]; rfl)) fun _ => vw_and1 (VT.to (vw_or (c := false) (VT.to (vt_not (vt_val (vn_call L.lic (hr.mono (by decide)) (va4 (P1 := PAt k) (P2 := isL K (isI o1)) (P3 := isL K (isI o2)) (P4 := isV K (dLL cl)) (pv (stb_P _ _ _ e14 hp) (lv 1)) (llv (lI ha1 e14) (lv 6)) (llv (lI hao e14) (lv 4)) ((lv 8 : VE _ _ _ _ (.ref p8)).imp fun u H6 e6 eu => ?_) stb_P stb_isL stb_isL stb_isV) (P := Is (.bl (clB k o1 o2 (dLL cl)))) (by
      rintro _ H6 e6 ⟨y1, y2, y3, y4, rfl, h1, h2, h3, h4⟩
      exact ⟨_, ⟨y1, y2, y3, y4, k, o1, o2, _, rfl, h1, h2, h3, hc2, hk, hn5, h4, rfl⟩, fun u H7 e7 eu => eu⟩)))) (by rw [clB_iff.mpr ⟨cl, rfl, cl2, cl1⟩]; rfl)) fun _ => vw_or1 (c := false) (VT.to (vt_neD (d := dLL cl) (d' := dLL cl) hu64 (vn_callK3 L.climbK hr (llv (lI hao e14) (lv 4)) (llv (lI ha1 e14) (lv 6)) (kv (i := 0) (stb_K _ _ _ e14 hkd) (lv 2)) stb_isL stb_isL (by
      rintro y1 y2 y3 H6 e6 h1 h2 h3
      refine ⟨_, ⟨y3, y2, y1, k, o1, o2, rfl, h3, h2, h1, ok60 hV1 hc1, ok60 hV2 hc2, hk, by omega, rfl⟩, fun u H7 e7 eu => ?_⟩
      rcases eu with ⟨_, eu⟩ | ⟨z, _⟩
      · rw [hcl] at eu; exact eu.l.d
      · rw [hb] at z; cases z)) ((lv 8 : VE _ _ _ _ (.ref p8)).imp fun u H6 e6 eu => by rw [show u = _ from eu]; exact (stb_isLL _ _ _ (e4.trans e6) hv8L).d) (dLL_sh _).s (dLL_sh _).s) (by rw [eqv_dLL, decide_eq_true rfl]; rfl))).t rfl)).t rfl) rfl fun H5 e5 => ?_
    · rw [show u = _ from eu]
      refine VDp.lst (stb_isLL _ _ _ (e4.trans e6) hv8L).d (fun d hd => ?_) (by rw [List.length_map, cl3]; omega)
      obtain ⟨o, _, rfl⟩ := List.mem_map.mp hd
      exact itD_dL o
    have e15 := e14.trans e5
    have e35 := e4.trans e5
    have hg5 := Gn.ex e15 hg
    have hps85 : Paired (fun a o => ¬ (isG g a ∨ H2 a ≠ none) ∧ H5 a = some (.lst (isI o))) ps8 cl := paired_imp hps8 fun a o ⟨q1, q2⟩ => ⟨q1, e35 _ _ q2⟩
    obtain ⟨od1, od2, od3⟩ := ords_of (g := g) (k := k) (H := H5) (paired_imp hps85 fun a o ⟨q1, q2⟩ => ⟨fun z => q1 (.inl z), q2⟩) clo
    refine right_bent L hgd hr ⟨hk, hn5, hrg⟩ hn hg5 (stb_P _ _ _ e15 hp) (stb_K _ _ _ e15 hkd) (e15 _ _ ha1) ha1g (e15 _ _ hao) haog hV1 hV2 hc1 hc2 (vn_if (c := true) (VT.to (vt_notN (lv 8)) (by rw [ref_non]; rfl)) (fun _ => (lv 8 : VE _ _ _ _ (.ref p8)).imp fun u H6 e6 eu => ⟨p8, ps8.zip cl, eu, fun z => hp8 (.inl z), by rw [od2]; exact e6 _ _ (e35 _ _ h8), od1.kq (.of e6), by omega, by omega⟩) fun h => by cases h) fun c9 c10 c11 H6 kp6 hg6 => ?_
    have kp16 : Kp g H H6 := (Kp.of e15).trans kp6
    have hp6 := hp.kp hg kp16
    have hkd6 := hkd.kp hg kp16
    have ha16 := kp16 _ _ ha1g ha1
    have hao6 := kp16 _ _ haog hao
    have hv76 : LLat (isG g) [o1, o2] v7 H6 := (hv73.kq (.of e35)).kq kp6
    have h86 : H6 p8 = some (.lst (ps8.map V.ref)) := kp6 _ _ (fun z => hp8 (.inl z)) (e35 _ _ h8)
    have hps86 : Paired (fun a o => ¬ (isG g a ∨ H2 a ≠ none) ∧ H6 a = some (.lst (isI o))) ps8 cl := paired_imp hps85 fun a o ⟨q1, q2⟩ => ⟨q1, kp6 _ _ (fun z => q1 (.inl z)) q2⟩
    refine vs_yes (c := true) (VT.to (vt_notN (lv 8)) (by rw [ref_non]; rfl)) rfl fun H7 e7 => ?_
    have kp17 : Kp g H H7 := kp16.trans (Kp.of e7)
    have h87 := e7 _ _ h86
    have hps87 : Paired (fun a o => ¬ (isG g a ∨ H2 a ≠ none) ∧ H7 a = some (.lst (isI o))) ps8 cl := paired_imp hps86 fun a o ⟨q1, q2⟩ => ⟨q1, e7 _ _ q2⟩
    have hsq : Paired (fun a o => SqL K H7 a (isI o)) ps8 cl := paired_imp hps87 fun a o ⟨_, q2⟩ => sq_of q2
    -- what the mutated ones are not
    have hT : ∀ a ∈ ps8, a ≠ g ∧ H2 a = none ∧ ∃ o, o ∈ cl ∧ H7 a = some (.lst (isI o)) := fun a ha => by
      obtain ⟨z1, z2, z3⟩ := paired_zip hps87
      rw [← z1] at ha
      obtain ⟨q, hq, rfl⟩ := List.mem_map.mp ha
      obtain ⟨q1, q2⟩ := z3 q hq
      refine ⟨fun z => q1 (.inl z), Decidable.byContradiction fun z => q1 (.inr z), q.2, ?_, q2⟩
      rw [← z2]
      exact List.mem_map_of_mem hq
    have hp8T : p8 ∉ ps8 := fun z => by
      obtain ⟨_, _, o, ho, hq⟩ := hT p8 z
      rw [h87] at hq
      have e0 := HO.lst.inj (Option.some.inj hq)
      have l0 := (clo o ho).1
      have hn1 := (ok_n hk).1
      cases o with
      | nil => have : 0 = k.n := l0; omega
      | cons x o =>
        cases ps8 with
        | nil => cases e0
        | cons y ys => cases e0
    -- whole
    refine vs_lcL (i := 12) (iy := 13) (xs := ps8.map V.ref) (CpR H7 cl) sc54.nd ((lv 8 : VE _ _ _ _ (.ref p8)).imp fun u H8 e8 eu => ⟨p8, eu, sq_of (e8 _ _ h87)⟩) (by rw [List.length_map, paired_len hsq]; omega) (blkOk_by (own := [("_law_item", 12)]) (N := NR) (sc := defScope (top 54)) (by decide +kernel)) (fun _ _ _ _ _ => pg_name (i := 12) sc54.nd rfl (Or.inl rfl)) (fun _ => rfl) (fun D H2 _ _ => ⟨[], rfl, rfl, fun q h => by cases h⟩) (copies_turn L.B.list hsq (fun _ _ _ _ _ x H' => lv 12) (fun _ _ _ _ _ => rfl) (fun _ _ _ _ _ => ⟨rfl, rfl⟩)) (fun v13 H8 e8 h13 => ?_) rfl
    have hwh := copies_done (X := XR P w K mg base f cdv A outer s HE E) hsq h13
    have kp18 : Kp g H H8 := kp17.trans (Kp.of e8)
    have hg8 := Gn.ex (e7.trans e8) hg6
    have h88 := e8 _ _ h87
    have hT8 : ∀ a ∈ ps8, ∃ xs, H8 a = some (.lst xs) ∧ xs.length ≤ 100 := fun a ha => by
      obtain ⟨_, _, o, ho, hq⟩ := hT a ha
      exact ⟨_, e8 _ _ hq, by rw [isI_len, (clo o ho).1]; omega⟩
    refine vs_forL (i := 12) (a := p8) (xs := ps8.map V.ref) sc54.nd (lv 8) (sq_of h88) (fun jj σ' H' => ∃ c12, σ' = [some (.ref g), some pv_, some kv_, some (.ref ar), some (.ref ao), some (.int (j : Int)), some (.ref a1), some v7, some (.ref p8), c9, c10, c11, c12, some v13, none, none, none, none, none] ∧ Kq (fun b => b ∈ ps8) H8 H' ∧ ∀ a ∈ ps8, ∃ xs, H' a = some (.lst xs) ∧ xs.length ≤ 100 + jj) (fun H9 e9 => ⟨c12, rfl, .of e9, fun a ha => ?_⟩) (fun jj σ' H' _ ⟨_, _, kq, _⟩ => sq_of (kq _ _ hp8T h88)) ?_ ?_
    · obtain ⟨xs, q1, q2⟩ := hT8 a ha
      exact ⟨xs, e9 _ _ q1, q2⟩
    · rintro jj x σ' H' hj' ⟨c12', rfl, kq, hall⟩
      obtain ⟨hjl, ex⟩ := List.getElem?_eq_some_iff.mp hj'
      rw [List.length_map] at hjl
      have ex : x = .ref ps8[jj] := by rw [← ex, List.getElem_map]
      subst ex
      have hm := List.getElem_mem hjl
      have hjc : jj < cl.length := by rw [← paired_len hsq]; exact hjl
      generalize ps8[jj] = aj at hm
      obtain ⟨xs, q1, q2⟩ := hall aj hm
      refine vs_app q1 (lv 12) (ve_int (i := 7)) stb_is (by omega) fun vx H9 e9 ex => vs_nil ⟨_, rfl, fun b o hb ho => ?_, fun a ha => ?_⟩
      · rw [upd_ne fun z => hb (by rw [z]; exact hm)]
        exact e9 _ _ (kq _ _ hb ho)
      · by_cases z : a = aj
        · subst z
          exact ⟨_, upd_same, by rw [List.length_append, List.length_singleton]; omega⟩
        · obtain ⟨ys, r1, r2⟩ := hall a ha
          exact ⟨ys, by rw [upd_ne z]; exact e9 _ _ r1, by omega⟩
    · rintro σ' H' ⟨c12', rfl, kq, _⟩
      -- the others stand as they were
      have nT : ∀ {b o}, H2 b = some o → b ∉ ps8 := fun {b o} h z => by
        obtain ⟨_, q, _⟩ := hT b z
        rw [q] at h; cases h
      have kp1' : Kp g H H' := fun b o hb ho => kq _ _ (nT (e2 _ _ ho)) (kp18 b o hb ho)
      have hg' : Gn g (n + 20) H' := by
        obtain ⟨x, sd, c, q1, q2⟩ := hg8
        refine ⟨x, sd, c, kq _ _ (fun z => (hT g z).1 rfl) q1, q2⟩
      have hkd' := hkd.kp hg kp1'
      have ha1' := kp1' _ _ ha1g ha1
      have hao' := kp1' _ _ haog hao
      have lI' : ∀ {a : Addr} {o : List Int} {H''}, H' a = some (.lst (isI o)) → Ex H' H'' → isL K (isI o) (.ref a) H'' := fun h e' => ⟨_, rfl, sq_of (e' _ _ h)⟩
      have hv7T : LLat (fun a => isG g a ∨ a ∈ ps8) [o1, o2] v7 H2 := by
        obtain ⟨q, qs, h1, h2, h3, h4⟩ := hv7
        exact ⟨q, qs, h1, fun z => z.elim h2 (nT h3), h3, paired_imp h4 fun a o ⟨q1, q2⟩ => ⟨fun z => z.elim q1 (nT q2), q2⟩⟩
      have kp28 : Kp g H2 H8 := (Kp.of (e3.trans e35)).trans (kp6.trans (Kp.of (e7.trans e8)))
      have hv7' : LLat (fun a => isG g a ∨ a ∈ ps8) [o1, o2] v7 H' := hv7T.kq fun b o hb ho => kq _ _ (fun z => hb (.inr z)) (kp28 b o (fun z => hb (.inl z)) ho)
      have hwh' : LLat (fun a => a ∈ ps8) cl v13 H' := (newLL.at hwh fun a ha q => by
        obtain ⟨_, _, o, _, h⟩ := hT a ha
        rw [q] at h; cases h).kq kq
      refine vs_no (c := false) (VT.to (vw_or (c := false) (VT.to (vt_neD hu64 (vn_two (llv (lI' ha1' (Ex.refl _)) (lv 6)) (llv (lI' hao' (Ex.refl _)) (lv 4))) ((lv 7 : VE _ _ _ _ v7).imp fun u H6 e6 eu => by rw [show u = v7 from eu]; exact (hv7'.kq (.of e6)).d) (dLL_sh _).s (dLL_sh _).s) (by rw [eqv_dLL, decide_eq_true rfl]; rfl)) fun _ => vw_or1 (c := false) (VT.to (vt_neD (d := dLL cl) hu64 ((vn_climbLe L.climb hr hk hn5 hleK hV1 hV2 hc1 hc2 (kv (i := 0) hkd' (lv 2)) (llv (lI' ha1' (Ex.refl _)) (lv 6)) (llv (lI' hao' (Ex.refl _)) (lv 4))).imp fun u H6 e6 eu => by rw [hcl] at eu; exact eu.l.d) ((lv 13 : VE _ _ _ _ v13).imp fun u H6 e6 eu => by rw [show u = v13 from eu]; exact (hwh'.kq (.of e6)).d) (dLL_sh _).s (dLL_sh _).s) (by rw [eqv_dLL, decide_eq_true rfl]; rfl))).t rfl) rfl fun H9 e9 => vs_nil (vs_nil (rest _ _ _ _ _ _ _ H9 (kp1'.trans (Kp.of e9)) (Gn.ex e9 hg')))
  · -- none is told
    refine vs_no (c := false) (VT.to (vw_or (c := false) (VT.to (vt_ne (ve_notN (lv 8)) (vn_call L.bn hr (va3 (kv (i := 0) (stb_K _ _ _ e13 hkd) (lv 2)) (llv (lI ha1 e13) (lv 6)) (llv (lI hao e13) (lv 4)) stb_K stb_isL stb_isL) (P := Is (.bl (bel k o1 o2))) (by
      rintro _ H6 e6 ⟨y1, y2, y3, rfl, h1, h2, h3⟩
      exact ⟨_, ⟨y1, y2, y3, k, o1, o2, rfl, h1, h2, h3, ok60 hV1 hc1, ok60 hV2 hc2, hk, by omega, rfl⟩, fun u H7 e7 eu => eu⟩))) (by rw [hb]; rfl)) fun _ => vw_or (c := false) (VT.to (vw_and (vt_lt (lv 5) ve_int) fun _ => vw_and1 (vt_isN (lv 8))).t ?_) fun _ => vw_or1 (c := false) (VT.to (vt_neD hu64 (two e13 rfl rfl) ((lv 7 : VE _ _ _ _ v7).imp fun u H6 e6 eu => by rw [show u = v7 from eu]; exact (hv73.kq (.of e6)).d) (dLL_sh _).s (dLL_sh _).s) (by rw [eqv_dLL, decide_eq_true rfl]; rfl))).t rfl) rfl fun H4 e4 => ?_
    · have : ¬ (j : Int) < 2 := fun z => by
        have := (bel_le hk hV1 hV2).mpr (hle (by omega))
        rw [hb] at this; cases this
      rw [decide_eq_false this]; rfl
    have e14 := e13.trans e4
    refine vs_no (c := false) (VT.to (vw_and (c := false) (c' := false) (VT.to (vt_notN (x := .non) (lv 8)) rfl) fun h => by cases h).t rfl) rfl fun H5 e5 => ?_
    have e15 := e14.trans e5
    have hg5 := Gn.ex e15 hg
    refine right_bent L hgd hr ⟨hk, hn5, hrg⟩ hn hg5 (stb_P _ _ _ e15 hp) (stb_K _ _ _ e15 hkd) (e15 _ _ ha1) ha1g (e15 _ _ hao) haog hV1 hV2 hc1 hc2 (vn_if (c := false) (VT.to (vt_notN (x := .non) (lv 8)) rfl) (fun h => by cases h) fun _ => (vn_lst (va2 (lv 6 : VE _ _ _ _ (.ref a1)) (lv 4 : VE _ _ _ _ (.ref ao)) stb_is stb_is) (fun _ _ _ _ h => h) fun vs _ ⟨_, _, e, _⟩ => by rw [e]; simp).imp fun v H' e' ⟨q, xs, ev, hq0, hq, x, y, ex, hx, hy⟩ => ⟨q, [(a1, o1), (ao, o2)], ev, Kp.ne hg5 hq0, by rw [hq, ex, show x = _ from hx, show y = _ from hy]; rfl, fun z hz => ?_, by simp, by simp⟩) fun c9 c10 c11 H6 kp6 hg6 => ?_
    · rcases List.mem_cons.mp hz with q | q
      · subst q; exact ⟨ha1g, e' _ _ (e15 _ _ ha1), VL.len hV1, big_few hk hV1 hc1 hn5⟩
      · rw [List.mem_singleton.mp q]; exact ⟨haog, e' _ _ (e15 _ _ hao), VL.len hV2, big_few hk hV2 hc2 hn5⟩
    refine vs_no (c := false) (vt_notN (x := .non) (lv 8)) rfl fun H7 e7 => vs_nil (rest _ _ _ _ _ _ _ H7 ((Kp.of e15).trans (kp6.trans (Kp.of e7))) (Gn.ex e7 hg6))
end
end W47
namespace W47
open PySem PySem.Spec PyProof.Rows L2 Evl C47
section
variable {P : Program} {w : World} {K : PySem.W.Frag} {mg : Str → Option Value} {base : Heap} {C : Addr}
variable {f : Addr} {cdv : Value} {A : Around} {outer : List Env} {s : Shared} {HE : Hp} {E : XK} {D : Ends} {g : Addr} {pv_ kv_ : V} {k : Kd} {a1 ar ao : Addr} {o1 o2 : List Int}
/-- the loop -/
theorem right_loop (L : LD P w K mg base C) (hgd : (XR P w K mg base f cdv A outer s HE E).A.guards = some []) (hr : Room 7 (XR P w K mg base f cdv A outer s HE E).A) (hLK : LK k) {row : List Nat} {H : Hp} (hg : Gn g 2100 H) (hp : PAt k pv_ H) (hkd : KAt C k kv_ H) (har : H ar = some (.lst (isN row))) (harg : ar ≠ g) (hao : H ao = some (.lst (isI (greedyL k row)))) (haog : ao ≠ g) (hrow : C47.Row k row) (hrl : row.length ≤ 10)
    (rest : ∀ c5 c6 c7 c8 c9 c10 c11 c12 c13 H', Kp g H H' → VS (XR P w K mg base f cdv A outer s HE E) tailR D [some (.ref g), some pv_, some kv_, some (.ref ar), some (.ref ao), c5, c6, c7, c8, c9, c10, c11, c12, c13, none, none, none, none, none] H') :
    VS (XR P w K mg base f cdv A outer s HE E) ((defBody (top 54)).drop 3) D [some (.ref g), some pv_, some kv_, some (.ref ar), some (.ref ao), none, none, none, none, none, none, none, none, none, none, none, none, none, none] H := by
  obtain ⟨hk, hn5, hrg⟩ := id hLK
  obtain ⟨hn1, hr2⟩ := ok_n hk
  have hu64 := hr.units
  have hV2 : VL k (greedyL k row) := vgreedy hk hrow
  have hc2 : crs k (greedyL k row) ≤ 10 := Nat.le_trans (crs_greedy' hk hrow) hrl
  refine vs_forR1 (i := 5) (z := 3) sc54.nd L.B.range ve_int (by omega) (fun j σ' H' => ∃ c5 c6 c7 c8 c9 c10 c11 c12 c13, σ' = [some (.ref g), some pv_, some kv_, some (.ref ar), some (.ref ao), c5, c6, c7, c8, c9, c10, c11, c12, c13, none, none, none, none, none] ∧ Kp g H H' ∧ Gn g (2100 + 100 * j) H') (fun H1 e1 => ⟨none, none, none, none, none, none, none, none, none, rfl, Kp.of e1, Gn.ex e1 hg⟩) ?_ fun σ' H' ⟨c5, c6, c7, c8, c9, c10, c11, c12, c13, eσ, kp, _⟩ => by rw [eσ]; exact rest c5 c6 c7 c8 c9 c10 c11 c12 c13 H' kp
  rintro j σ' H0 hj ⟨c5, c6, c7, c8, c9, c10, c11, c12, c13, rfl, kp0, hg0⟩
  have hp0 := hp.kp hg kp0
  have hkd0 := hkd.kp hg kp0
  have har0 := kp0 _ _ harg har
  have hao0 := kp0 _ _ haog hao
  -- one
  refine gs_set (i := 6) sc54.nd (ge_call L.lmade (hr.mono (by decide)) ?_)
  refine ga_cons ((lv 1 : VE _ _ _ _ pv_).here fun x1 H1 e1 ex => ?_)
  have ex : pv_ = x1 := (show x1 = pv_ from ex).symm
  subst ex
  have kp1 := kp0.trans (Kp.of e1)
  have hg1 := Gn.ex e1 hg0
  refine ga_cons (ge_lcL (i := 18) (xs := isN row) (u := ar) sc54.nd (blkOk_by (own := [("_law_step_here", 18)]) (N := NR) (sc := defScope (top 54)) (by decide +kernel)) (fun _ _ _ _ _ => pg_name (i := 18) sc54.nd rfl (Or.inl rfl)) (fun _ => rfl) (lv 3) (sq_of (e1 _ _ har0)) fun D1 H2 e2 hD => ?_)
  have kp2 := kp1.trans (Kp.of e2)
  have hg2 := Gn.ex e2 hg1
  have hDg : D1 ≠ g := Kp.ne hg2 hD
  have hDn : H D1 = none := kp2.none' hg hg2 hD
  refine ⟨fun jj H' => ∃ part : List Nat, part.Sublist (row.take jj) ∧ H' D1 = some (.lst (isN part)) ∧ Kp g H H' ∧ Gn g (2100 + 100 * j + jj) H', ⟨[], List.nil_sublist _, upd_same, fun b o hb ho => ?_, ?_⟩, fun jj H' _ ⟨_, _, _, q, _⟩ => sq_of (q _ _ harg har), ?_, ?_⟩
  · rw [upd_ne fun z => by rw [z, hDn] at ho; cases ho]
    exact kp2 b o hb ho
  · obtain ⟨x, sd, c, q1, q2⟩ := hg2
    exact ⟨x, sd, c, by rw [upd_ne (Ne.symm hDg)]; exact q1, q2⟩
  · rintro jj x H' hj' ⟨part, q1, q2, q3, q4⟩
    obtain ⟨hjl, rfl⟩ := isN_get hj'
    intro s Hs C cl fp
    refine gts_one (gt_eqI ?_ (nomark _))
    refine ge_call (k := 2) (sp := spRand) (ps := ["_law_generator_here", "_law_bound"]) ?d1 ?d2 ?d3
    case d1 => exact L.rand
    case d2 => exact hr.mono (by decide)
    refine VA.here (P := A2 (Is (.ref g)) (Is (.int 2))) ?d4 ?d5
    case d4 => exact va2 (lv 0) ve_int stb_is stb_is
    rintro _ H3 e3 ⟨_, _, rfl, rfl, rfl⟩
    refine ⟨g, 2, 2100 + 100 * j + jj, rfl, Gn.ex e3 q4, by omega, by omega, by omega, fun d H4 h0 h1 kp4 hg4 => ?_⟩
    refine VN.here (P := Is (.int 0)) ?d6 ?d7
    case d6 => exact ve_int
    rintro _ H5 e5 rfl
    have hD5 : H5 D1 = some (.lst (isN part)) := e5 _ _ (kp4 _ _ hDg (e3 _ _ q2))
    have kp5 : Kp g H H5 := q3.trans ((Kp.of e3).trans (kp4.trans (Kp.of e5)))
    have hg5 := Gn.ex e5 hg4
    have hsub : part.Sublist (row.take (jj + 1)) := q1.trans (List.take_sublist_take_left (Nat.le_succ _))
    refine ⟨d, 0, rfl, rfl, ?_⟩
    by_cases hd : d = 0
    · rw [if_pos (decide_eq_true hd)]
      intro s Hs C cl fp
      refine VN.here (P := Is (.int ((row[jj] : Nat) : Int))) ?d8 ?d9
      case d8 => exact lv 18
      rintro _ H6 e6 rfl
      refine ⟨isN part, e6 _ _ hD5, ?_, part ++ [row[jj]], ?_, by rw [upd_same]; simp [isN], fun b o hb ho => ?_, ?_⟩
      · rw [List.length_map]
        have := q1.length_le
        rw [List.length_take] at this
        omega
      · rw [List.take_succ, List.getElem?_eq_getElem hjl]
        exact q1.append (List.Sublist.refl _)
      · rw [upd_ne fun z => by rw [z, hDn] at ho; cases ho]
        exact e6 _ _ (kp5 b o hb ho)
      · obtain ⟨x, sd, c, r1, r2⟩ := Gn.ex e6 hg5
        exact ⟨x, sd, c, by rw [upd_ne (Ne.symm hDg)]; exact r1, r2⟩
    · rw [if_neg (by rw [decide_eq_false hd]; decide)]
      exact ⟨part, hsub, hD5, kp5, hg5⟩
  · rintro H3 ⟨part, q1, q2, q3, q4⟩
    rw [List.length_map, List.take_length] at q1
    rw [List.length_map] at q4
    have hpart : C47.Row k part := fun g hg => hrow g (q1.subset hg)
    have hpl : part.length ≤ 10 := Nat.le_trans q1.length_le hrl
    have hp3 := hp.kp hg q3
    refine ga_nil ⟨_, ⟨pv_, .ref D1, k, part, rfl, hp3, ⟨D1, rfl, sq_of q2⟩, hpart, hk, by omega, rfl⟩, fun v4 H4 e4 hv4 => ?_⟩
    obtain ⟨a4, rfl, ha40, ha4⟩ := hv4
    have kp4 : Kp g H H4 := q3.trans (Kp.of e4)
    have hg4 := (Gn.ex e4 q4).mono (show 2100 + 100 * j + row.length ≤ 2100 + 100 * j + 10 by omega)
    have hV4 : VL k (made k part) := vmade hk hpart
    have hc4 : crs k (made k part) ≤ 10 := Nat.le_trans (crs_made hk hpart) hpl
    have hle : LeK k (made k part) (greedyL k row) := part_greedy hk hrow q1
    have ha4g : a4 ≠ g := Kp.ne q4 ha40
    -- the end of a turn
    have fin : ∀ {n : Nat} {H5 : Hp} {a1 : Addr} {o1 : List Int} {c7 c8 c9 c10 c11 c12 c13 : Option V}, n + 20 ≤ 2100 + 100 * (j + 1) → n ≤ 600000 → Gn g n H5 → Kp g H H5 → H5 a1 = some (.lst (isI o1)) → a1 ≠ g → VL k o1 → crs k o1 ≤ 10 → (j < 2 → LeK k o1 (greedyL k row)) →
        VS (XR P w K mg base f cdv A outer s HE E) (turnR.drop 2) { D with nx := fun σ' H' => ∃ c5 c6 c7 c8 c9 c10 c11 c12 c13, σ' = [some (.ref g), some pv_, some kv_, some (.ref ar), some (.ref ao), c5, c6, c7, c8, c9, c10, c11, c12, c13, none, none, none, none, none] ∧ Kp g H H' ∧ Gn g (2100 + 100 * (j + 1)) H', ct := fun σ' H' => ∃ c5 c6 c7 c8 c9 c10 c11 c12 c13, σ' = [some (.ref g), some pv_, some kv_, some (.ref ar), some (.ref ao), c5, c6, c7, c8, c9, c10, c11, c12, c13, none, none, none, none, none] ∧ Kp g H H' ∧ Gn g (2100 + 100 * (j + 1)) H', bk := fun σ' H' => VS (XR P w K mg base f cdv A outer s HE E) tailR D σ' H' } [some (.ref g), some pv_, some kv_, some (.ref ar), some (.ref ao), some (.int (j : Int)), some (.ref a1), c7, c8, c9, c10, c11, c12, c13, none, none, none, none, none] H5 := fun {n H5 a1 o1 c7 c8 c9 c10 c11 c12 c13} hn hn6 hg5 kp5 h1 h1g v1 cc1 hl =>
      right_turn L hgd hr hLK hn6 hg5 (hp.kp hg kp5) (hkd.kp hg kp5) h1 h1g (kp5 _ _ haog hao) haog v1 hV2 cc1 hc2 hl fun c7 c8 c9 c10 c11 c12 c13 H' kp' hg' => ⟨_, _, _, _, _, _, _, _, _, rfl, kp5.trans kp', hg'.mono hn⟩
    refine vs_if (c := decide (j = 2)) (VT.to (vt_eq (lv 5) ve_int) (by rw [dec_intV]; exact decide_eq_decide.mpr ⟨fun h => by omega, fun h => by omega⟩)) (fun hc H5 e5 => ?_) fun hc H5 e5 => ?_
    · have hj2 : j = 2 := of_decide_eq_true hc
      refine gs_set (i := 6) sc54.nd (ge_call L.lor (hr.mono (by decide)) ((va3 (lv 0 : VE _ _ _ _ (.ref g)) (lv 1 : VE _ _ _ _ pv_) (ve_int (i := 8)) stb_is stb_is stb_is).here ?_))
      rintro _ H6 e6 ⟨_, w2, _, rfl, rfl, ew, rfl⟩
      have ew : pv_ = w2 := (show w2 = pv_ from ew).symm
      subst ew
      have kp6 := kp4.trans (Kp.of (e5.trans e6))
      refine ⟨g, pv_, k, 8, 2100 + 100 * j + 10, rfl, Gn.ex (e5.trans e6) hg4, hp.kp hg kp6, hLK, by omega, by omega, fun o8 a8 H7 hV8 hc8 kp7 hg7 ha80 ha8 => ?_⟩
      refine vs_nil (fin (by omega) (by omega) hg7 (kp6.trans kp7) ha8 (Kp.ne (Gn.ex (e5.trans e6) hg4) ha80) hV8 (by omega) (fun h => by omega))
    · exact vs_nil (fin (by omega) (by omega) (Gn.ex e5 hg4) (kp4.trans (Kp.of e5)) (e5 _ _ ha4) ha4g hV4 hc4 fun _ => hle)
end
end W47
namespace W47
open PySem PySem.Spec PyProof.Rows L2 Evl C47
theorem climbL_self {k : Kd} (S : Srt) (o : List Int) : climbL k S o o = [o] := by
  unfold climbL
  rw [climbTo_end]
  rfl
theorem up_no {k : Kd} : ∀ {l : List (List Int)} {w : List Int}, l.getLast? = some w → ¬ Up k (l ++ [w])
  | [], _, h => by cases h
  | [u], w, h => by
    have e : u = w := by simpa using h
    subst e
    rintro ⟨⟨h1, _⟩, _⟩
    omega
  | u :: v :: r, w, h => by
    rintro ⟨_, h2⟩
    exact up_no (k := k) (l := v :: r) (w := w) (by simpa [List.getLast?_cons_cons] using h) h2
theorem clB_more {k : Kd} {s o : List Int} {cl : List (List Int)} (h : cl.getLast? = some o) : clB k s o (dLL (cl ++ [o])) = false := clB_no (by
  rintro ⟨vs, e, _, h3⟩
  have e := dLL_inj e
  rw [← e] at h3
  exact up_no h h3.2.2)
theorem clB_long {k : Kd} {s o h : List Int} {cl : List (List Int)} (hl : h.length ≠ k.n) : clB k s o (dLL (h :: cl)) = false := clB_no (by
  rintro ⟨vs, e, h2, _⟩
  have e := dLL_inj e
  rw [← e] at h2
  exact hl (VL.len (h2 h List.mem_cons_self)))
section
variable {X : Cx} {σ : L2.St} {H H' : Hp} {a : Expr} {pos : Pos} {P : PV}
theorem ve_notN' {j pos'} (ha : VN X a σ H P) (h : ∀ v H', P v H' → v ≠ .non) : VE X (.Compare a [.IsNot] [.Constant .none j pos'] pos) σ H (.bl true) := vn_cmp op_notN (ha.imp fun v H' _ p => h v H' p) ve_non (fun _ _ _ _ h => h) (fun x y H1 _ hx hy Q q => ⟨hy, q _ H1 (Ex.refl H1) (by show V.bl (!decide (x = .non)) = _; rw [decide_eq_false hx]; rfl)⟩) (nomark _)
theorem newLL_ne {H0 : Hp} {os : List (List Int)} {v : V} (h : newLL H0 os v H') : v ≠ .non := by
  obtain ⟨p, _, e, _⟩ := h
  rw [e]
  intro z; cases z
end
theorem ll_dp {K : PySem.W.Frag} {H : Hp} : ∀ {ps : List Addr} {os : List (List Int)}, Paired (fun a o => H a = some (.lst (isI o))) ps os → DpAll K H (ps.map V.ref) (os.map dL)
  | _, _, .nil => .nil
  | _, _, .cons h t => .cons (.lst (sq_of h) (dp_ints _)) (ll_dp t)
theorem vdp_ll {K : PySem.W.Frag} {H : Hp} {p : Addr} {ps : List Addr} {os : List (List Int)} (h : H p = some (.lst (ps.map V.ref))) (hp : Paired (fun a o => H a = some (.lst (isI o))) ps os) (hl : os.length ≤ 1000) : VDp K H (.ref p) (dLL os) :=
  .lst (.lst (sq_of h) (ll_dp hp)) (fun d hd => by
    obtain ⟨o, _, rfl⟩ := List.mem_map.mp hd
    exact itD_dL o) (by rw [List.length_map]; exact hl)
theorem choose_os {H : Hp} : ∀ {ps : List Addr}, (∀ a ∈ ps, ∃ o : List Int, H a = some (.lst (isI o))) → ∃ os, Paired (fun a o => H a = some (.lst (isI o))) ps os
  | [], _ => ⟨[], .nil⟩
  | a :: ps, h => by
    obtain ⟨o, ho⟩ := h a List.mem_cons_self
    obtain ⟨os, hos⟩ := choose_os fun b hb => h b (List.mem_cons_of_mem _ hb)
    exact ⟨o :: os, .cons ho hos⟩
theorem paired_mem {α β : Type} {F : α → β → Prop} {l₁ : List α} {l₂ : List β} (h : Paired F l₁ l₂) : ∀ a ∈ l₁, ∃ b ∈ l₂, F a b := fun a ha => by
  obtain ⟨z1, z2, z3⟩ := paired_zip h
  rw [← z1] at ha
  obtain ⟨q, hq, rfl⟩ := List.mem_map.mp ha
  exact ⟨q.2, by rw [← z2]; exact List.mem_map_of_mem hq, z3 q hq⟩
section
variable {P : Program} {w : World} {K : PySem.W.Frag} {mg : Str → Option Value} {base : Heap} {C : Addr}
variable {f : Addr} {cdv : Value} {A : Around} {outer : List Env} {s : Shared} {HE : Hp} {E : XK} {D : Ends} {g : Addr} {pv_ kv_ : V} {k : Kd} {a1 ar ao : Addr} {o1 o2 : List Int}
theorem right_tail (L : LD P w K mg base C) (hr : Room 7 (XR P w K mg base f cdv A outer s HE E).A) (hLK : LK k) {H : Hp} (hp : PAt k pv_ H) (hkd : KAt C k kv_ H) (hao : H ao = some (.lst (isI o2))) (hV2 : VL k o2) (hc2 : crs k o2 ≤ 10) {c5 c6 c7 c8 c9 c10 c11 c12 c13 : Option V}
    (fin : ∀ H', Ex H H' → D.rt (.bl true) H') :
    VS (XR P w K mg base f cdv A outer s HE E) tailR D [some (.ref g), some pv_, some kv_, some (.ref ar), some (.ref ao), c5, c6, c7, c8, c9, c10, c11, c12, c13, none, none, none, none, none] H := by
  have hu64 := hr.units
  obtain ⟨hk, hn5, hrg⟩ := hLK
  obtain ⟨hn1, hr2⟩ := ok_n hk
  have hVs : VL k k.start := vstart hk
  have hcs : crs k k.start ≤ 10 := by rw [crs_start]; omega
  have hles : LeK k k.start o2 := bel_start hk hV2
  have lI : ∀ {a : Addr} {o : List Int} {H0 H''}, H0 a = some (.lst (isI o)) → Ex H0 H'' → isL K (isI o) (.ref a) H'' := fun h e' => ⟨_, rfl, sq_of (e' _ _ h)⟩
  have stE : ∀ {σ2 : L2.St} {H'' : Hp} {p1 p2 pos}, Ex H H'' → σ2[1]? = some (some pv_) → VN (XR P w K mg base f cdv A outer s HE E) (.Call (.Name "_law_start" p1) [.Name "_law_pair" p2] [] pos) σ2 H'' (isL K (isI k.start)) := fun {σ2 H'' p1 p2 pos} e h =>
    vn_call (X := XR P w K mg base f cdv A outer s HE E) L.lstart (hr.mono (by decide)) (va1 (pv (stb_P _ _ _ e hp) (lv 1 h)) stb_P) (by
      rintro _ H2 e2 ⟨x, rfl, hx⟩
      exact ⟨_, ⟨x, k, rfl, hx, by omega, rfl⟩, fun u H3 e3 eu => eu.l⟩)
  have kE : ∀ {σ2 : L2.St} {H'' : Hp} {pos}, Ex H H'' → σ2[2]? = some (some kv_) → VN (XR P w K mg base f cdv A outer s HE E) (.Name "_law_kind_here" pos) σ2 H'' (KAt C k) := fun {σ2 H'' pos} e h => kv (i := 0) (X := XR P w K mg base f cdv A outer s HE E) (stb_K _ _ _ e hkd) (lv 2 h)
  have oE : ∀ {σ2 : L2.St} {H'' : Hp} {pos}, Ex H H'' → σ2[4]? = some (some (.ref ao)) → VN (XR P w K mg base f cdv A outer s HE E) (.Name "_law_other" pos) σ2 H'' (isL K (isI o2)) := fun {σ2 H'' pos} e h => llv (X := XR P w K mg base f cdv A outer s HE E) (lI hao e) (lv 4 h)
  -- is_climb(kind, start(pair), other, given)
  have icE : ∀ {σ2 : L2.St} {H'' : Hp} {p1 p2 p3 p4 p5 p6 p7 pos} {p14 : Addr} {d : PyData}, Ex H H'' → VDp K H'' (.ref p14) d → σ2[1]? = some (some pv_) → σ2[2]? = some (some kv_) → σ2[4]? = some (some (.ref ao)) → σ2[14]? = some (some (.ref p14)) → VE (XR P w K mg base f cdv A outer s HE E) (.Call (.Name "is_climb" p1) [.Name "_law_kind_here" p2, .Call (.Name "_law_start" p3) [.Name "_law_pair" p4] [] p5, .Name "_law_other" p6, .Name "_law_given" p7] [] pos) σ2 H'' (.bl (clB k k.start o2 d)) := fun {σ2 H'' p1 p2 p3 p4 p5 p6 p7 pos p14 d} e hd h1 h2 h4 h14 =>
    vn_call (X := XR P w K mg base f cdv A outer s HE E) L.ic hr (va4 (P1 := KAt C k) (P2 := isL K (isI k.start)) (P3 := isL K (isI o2)) (P4 := isV K d) (kE e h2) (stE e h1) (oE e h4) ((lv 14 h14 : VE _ _ _ _ (.ref p14)).imp fun u H3 e3 eu => by rw [show u = _ from eu]; exact hd.mono e3) stb_K stb_isL stb_isL stb_isV) (by
      rintro _ H6 e6 ⟨y1, y2, y3, y4, rfl, q1, q2, q3, q4⟩
      exact ⟨_, ⟨y1, y2, y3, y4, k, k.start, o2, d, rfl, q1, q2, q3, ok60 hVs hcs, ok60 hV2 hc2, hk, by omega, q4, rfl⟩, fun u H7 e7 eu => eu⟩)
  obtain ⟨cl1, cl2, cl3⟩ := climbL_ok hk (S := S0) hles
  have clo := climb_ords hk hn5 hV2 hles hc2
  have hclB : clB k k.start o2 (dLL (climbL k S0 k.start o2)) = true := clB_iff.mpr ⟨_, rfl, cl2, cl1⟩
  -- given
  refine vs_set (i := 14) sc54.nd (vn_climbLe L.climb hr hk hn5 hles hVs hV2 hcs hc2 (kE (Ex.refl _) rfl) (stE (Ex.refl _) rfl) (oE (Ex.refl _) rfl)) fun v14 H1 e1 h14 => ?_
  generalize hcl : climbL k S0 k.start o2 = cl at h14 cl1 cl2 cl3 clo hclB
  obtain ⟨p14, ps14, rfl, hp140, hp14, hps14⟩ := h14
  have hsq : Paired (fun a o => SqL K H1 a (isI o)) ps14 cl := paired_imp hps14 fun a o ⟨_, q2⟩ => sq_of q2
  have hl14 := paired_len hps14
  have h14n : p14 ∉ ps14 := fun z => by
    obtain ⟨o, ho, _, hq⟩ := paired_mem hps14 _ z
    rw [hp14] at hq
    have e0 := HO.lst.inj (Option.some.inj hq)
    have l0 := (clo o ho).1
    cases o with
    | nil => have : 0 = k.n := l0; omega
    | cons x o =>
      cases ps14 with
      | nil => cases e0
      | cons y ys => cases e0
  -- kept
  refine vs_lcL (i := 12) (iy := 7) (xs := ps14.map V.ref) (CpR H1 cl) sc54.nd ((lv 14 : VE _ _ _ _ (.ref p14)).imp fun u H8 e8 eu => ⟨p14, eu, sq_of (e8 _ _ hp14)⟩) (by rw [List.length_map]; omega) (blkOk_by (own := [("_law_item", 12)]) (N := NR) (sc := defScope (top 54)) (by decide +kernel)) (fun _ _ _ _ _ => pg_name (i := 12) sc54.nd rfl (Or.inl rfl)) (fun _ => rfl) (fun D H2 _ _ => ⟨[], rfl, rfl, fun q h => by cases h⟩) (copies_turn L.B.list hsq (fun _ _ _ _ _ x H' => lv 12) (fun _ _ _ _ _ => rfl) (fun _ _ _ _ _ => ⟨rfl, rfl⟩)) (fun v7 H2 e2 h7 => ?_) rfl
  obtain ⟨p7, ps7, rfl, hp70, hp7, hps7⟩ := copies_done (X := XR P w K mg base f cdv A outer s HE E) hsq h7
  have e02 := e1.trans e2
  have h72 : p7 ≠ p14 := fun z => by rw [z, hp14] at hp70; cases hp70
  have hps72 : Paired (fun a o => a ≠ p14 ∧ H a = none ∧ H2 a = some (.lst (isI o))) ps7 cl := paired_imp hps7 fun a o ⟨q1, q2⟩ => ⟨fun z => (by rw [z, hp14] at q1; cases q1), fresh_back e1 q1, q2⟩
  have hp142 := e2 _ _ hp14
  -- given.append(list(other))
  refine vs_app hp142 (lv 14) (vn_list L.B.list (oE e02 rfl)) stb_newL (by rw [List.length_map]; omega) fun vq H3 e3 hq => ?_
  obtain ⟨q, rfl, hq0, hqq⟩ := hq
  have e03 := e02.trans e3
  have hqn : q ≠ p14 := fun z => by rw [z, hp142] at hq0; cases hq0
  have eA : Ex H (upd H3 p14 (.lst (ps14.map V.ref ++ [V.ref q]))) := Ex.mut e03 hp140
  have hA14 : (upd H3 p14 (.lst (ps14.map V.ref ++ [V.ref q]))) p14 = some (.lst ((ps14 ++ [q]).map V.ref)) := by rw [upd_same, List.map_append]; rfl
  have hAi : Paired (fun a o => (upd H3 p14 (.lst (ps14.map V.ref ++ [V.ref q]))) a = some (.lst (isI o))) (ps14 ++ [q]) (cl ++ [o2]) := paired_append (by
    have : ∀ {l : List Addr} {os : List (List Int)}, (∀ a ∈ l, a ≠ p14) → Paired (fun a o => H a = none ∧ H1 a = some (.lst (isI o))) l os → Paired (fun a o => (upd H3 p14 (.lst (ps14.map V.ref ++ [V.ref q]))) a = some (.lst (isI o))) l os := by
      intro l os hne hp
      induction hp with
      | nil => exact .nil
      | cons r t ih => exact .cons (by rw [upd_ne (hne _ List.mem_cons_self)]; exact e3 _ _ (e2 _ _ r.2)) (ih fun a ha => hne a (List.mem_cons_of_mem _ ha))
    exact this (fun a ha z => h14n (z ▸ ha)) hps14) (.cons (by rw [upd_ne hqn]; exact hqq) .nil)
  have hA7 : (upd H3 p14 (.lst (ps14.map V.ref ++ [V.ref q]))) p7 = some (.lst (ps7.map V.ref)) := by rw [upd_ne h72]; exact e3 _ _ hp7
  have hA7i : Paired (fun a o => a ≠ p14 ∧ H a = none ∧ (upd H3 p14 (.lst (ps14.map V.ref ++ [V.ref q]))) a = some (.lst (isI o))) ps7 cl := paired_imp hps72 fun a o ⟨q1, q2, q3⟩ => ⟨q1, q2, by rw [upd_ne q1]; exact e3 _ _ q3⟩
  generalize upd H3 p14 (.lst (ps14.map V.ref ++ [V.ref q])) = HA at eA hA14 hAi hA7 hA7i
  have hp7H : H p7 = none := fresh_back e1 hp70
  -- asked
  refine vs_set (i := 15) sc54.nd (P := newL HA [V.bl false]) ((vn_lst (va1 (P1 := Is (.bl false)) (VE.to (icE eA (vdp_ll hA14 hAi (by rw [List.length_append]; simp; omega)) rfl rfl rfl rfl) (by rw [clB_more cl1.2.1])) stb_is) (fun _ _ _ _ h => h) fun vs _ ⟨_, e, _⟩ => by rw [e]; simp).imp fun v H' _ ⟨p, xs, ev, hp0, hp, x, ex, hx⟩ => ⟨p, ev, hp0, by rw [hp, ex, show x = _ from hx]⟩) fun v15 HB eB h15 => ?_
  obtain ⟨p15, rfl, hp150, hp15⟩ := h15
  have e0B := eA.trans eB
  have h1514 : p15 ≠ p14 := fun z => by rw [z, hA14] at hp150; cases hp150
  have h157 : ∀ a ∈ ps7, p15 ≠ a := fun a ha z => by
    obtain ⟨o, _, _, _, h⟩ := paired_mem hA7i a ha
    rw [← z, hp150] at h; cases h
  have h15H : H p15 = none := fresh_back eA hp150
  -- given[:] = kept
  refine vs_setAll (l := p14) (b := p7) (lv 14) (lv 7) (eB _ _ hA14) (eB _ _ hA7) (Ne.symm h72) (by rw [List.length_map, List.length_map, List.length_append, List.length_singleton]; have := paired_len hA7i; omega) fun HC eC => ?_
  have eCH : Ex H (upd HC p14 (.lst (ps7.map V.ref))) := Ex.mut (e0B.trans eC) hp140
  have hC14 : (upd HC p14 (.lst (ps7.map V.ref))) p14 = some (.lst (ps7.map V.ref)) := upd_same
  have hC15 : (upd HC p14 (.lst (ps7.map V.ref))) p15 = some (.lst [V.bl false]) := by rw [upd_ne h1514]; exact eC _ _ hp15
  have hCi : Paired (fun a o => a ≠ p14 ∧ H a = none ∧ (upd HC p14 (.lst (ps7.map V.ref))) a = some (.lst (isI o))) ps7 cl := paired_imp hA7i fun a o ⟨q1, q2, q3⟩ => ⟨q1, q2, by rw [upd_ne q1]; exact eC _ _ (eB _ _ q3)⟩
  generalize upd HC p14 (.lst (ps7.map V.ref)) = HC at eCH hC14 hC15 hCi
  have hl7 := paired_len hCi
  -- asked.append(..)
  refine vs_app hC15 (lv 15) (VE.to (icE eCH (vdp_ll hC14 (paired_imp hCi fun a o ⟨_, _, q3⟩ => q3) (by omega)) rfl rfl rfl rfl) (by rw [hclB])) stb_is (by simp) fun vb HD eD hb => ?_
  cases hb
  have eDH : Ex H (upd HD p15 (.lst ([V.bl false] ++ [V.bl true]))) := Ex.mut (eCH.trans eD) h15H
  have hD15 : (upd HD p15 (.lst ([V.bl false] ++ [V.bl true]))) p15 = some (.lst [V.bl false, V.bl true]) := upd_same
  have hD14 : (upd HD p15 (.lst ([V.bl false] ++ [V.bl true]))) p14 = some (.lst (ps7.map V.ref)) := by rw [upd_ne (Ne.symm h1514)]; exact eD _ _ hC14
  have hDi : Paired (fun a o => a ≠ p15 ∧ a ≠ p14 ∧ H a = none ∧ (upd HD p15 (.lst ([V.bl false] ++ [V.bl true]))) a = some (.lst (isI o))) ps7 cl := by
    obtain ⟨z1, z2, z3⟩ := paired_zip hCi
    have key := paired_of (F := fun a o => a ≠ p15 ∧ a ≠ p14 ∧ H a = none ∧ (upd HD p15 (.lst ([V.bl false] ++ [V.bl true]))) a = some (.lst (isI o))) (ps7.zip cl) fun z hz => by
      obtain ⟨q1, q2, q3⟩ := z3 z hz
      have hne : z.1 ≠ p15 := fun y => h157 z.1 (by rw [← z1]; exact List.mem_map_of_mem hz) y.symm
      exact ⟨hne, q1, q2, by rw [upd_ne hne]; exact eD _ _ q3⟩
    rw [z1, z2] at key
    exact key
  generalize upd HD p15 (.lst ([V.bl false] ++ [V.bl true])) = HD at eDH hD15 hD14 hDi
  -- given[0].append(0)
  obtain ⟨cl0, clr, ecl⟩ : ∃ x r, cl = x :: r := by
    cases cl with
    | nil => cases cl1.1
    | cons x r => exact ⟨x, r, rfl⟩
  subst ecl
  have ecl0 : cl0 = k.start := by have := cl1.1; simpa using this
  cases hDi with
  | cons r0 rt =>
  rename_i a0 ar7
  obtain ⟨r1, r2, r3, r4⟩ := r0
  refine vs_app (l := a0) r4 (ve_ixL (i := 0) (v := .ref a0) ((lv 14 : VE _ _ _ _ (.ref p14)).imp fun u H8 e8 eu => (⟨p14, eu, sq_of (e8 _ _ hD14)⟩ : isL K ((a0 :: ar7).map V.ref) u H8)) ve_int (atI_nat (j := 0) rfl)) (ve_int (i := 0)) stb_is (by rw [isI_len, (clo cl0 List.mem_cons_self).1]; omega) fun vz HF eF hz => ?_
  cases hz
  have eFH : Ex H (upd HF a0 (.lst (isI cl0 ++ [V.int 0]))) := Ex.mut (eDH.trans eF) r3
  have hF0 : (upd HF a0 (.lst (isI cl0 ++ [V.int 0]))) a0 = some (.lst (isI (cl0 ++ [0]))) := by rw [upd_same, isI, isI, List.map_append]; rfl
  have hF14 : (upd HF a0 (.lst (isI cl0 ++ [V.int 0]))) p14 = some (.lst ((a0 :: ar7).map V.ref)) := by rw [upd_ne (Ne.symm r2)]; exact eF _ _ hD14
  have hF15 : (upd HF a0 (.lst (isI cl0 ++ [V.int 0]))) p15 = some (.lst [V.bl false, V.bl true]) := by rw [upd_ne (Ne.symm r1)]; exact eF _ _ hD15
  have hFr : ∀ a ∈ ar7, ∃ o : List Int, (upd HF a0 (.lst (isI cl0 ++ [V.int 0]))) a = some (.lst (isI o)) := fun a ha => by
    by_cases z : a = a0
    · rw [z]; exact ⟨_, hF0⟩
    · obtain ⟨o, _, _, _, _, h⟩ := paired_mem rt a ha
      exact ⟨o, by rw [upd_ne z]; exact eF _ _ h⟩
  generalize upd HF a0 (.lst (isI cl0 ++ [V.int 0])) = HF at eFH hF0 hF14 hF15 hFr
  obtain ⟨os7, hos7⟩ := choose_os hFr
  have hlr := paired_len hos7
  have hlr2 := paired_len rt
  refine vs_app hF15 (lv 15) (VE.to (icE eFH (vdp_ll hF14 (.cons hF0 hos7) (by rw [List.length_cons]; rw [List.length_cons] at cl3; omega)) rfl rfl rfl rfl) (by rw [clB_long (by rw [List.length_append, (clo cl0 List.mem_cons_self).1]; simp)])) stb_is (by simp) fun vb HG eG hb => ?_
  cases hb
  have eGH : Ex H (upd HG p15 (.lst ([V.bl false, V.bl true] ++ [V.bl false]))) := Ex.mut (eFH.trans eG) h15H
  have hG15 : (upd HG p15 (.lst ([V.bl false, V.bl true] ++ [V.bl false]))) p15 = some (.lst [V.bl false, V.bl true, V.bl false]) := upd_same
  generalize upd HG p15 (.lst ([V.bl false, V.bl true] ++ [V.bl false])) = HG at eGH hG15
  have shb : ∀ d ∈ [PyData.bool false, .bool true, .bool false], Sh 0 d := fun d hd => by
    simp only [List.mem_cons, List.not_mem_nil, or_false] at hd
    rcases hd with rfl | rfl | rfl <;> exact sh_bool _
  refine vs_no (c := false) (VT.to (vw_or (c := false) (VT.to (vt_neD (d := .list [.bool false, .bool true, .bool false]) (d' := .list [.bool false, .bool true, .bool false]) hu64 ((lv 15 : VE _ _ _ _ (.ref p15)).imp fun u H8 e8 eu => by rw [show u = _ from eu]; exact Dp.lst (sq_of (e8 _ _ hG15)) (.cons (.bl _) (.cons (.bl _) (.cons (.bl _) .nil)))) ((vn_lst (va3 (ve_bl (c := false)) (ve_bl (c := true)) (ve_bl (c := false)) stb_is stb_is stb_is) (fun _ _ _ _ h => h) fun vs _ ⟨_, _, _, e, _⟩ => by rw [e]; simp).imp fun v H' _ ⟨p, xs, ev, _, hp, x, y, z, ex, hx, hy, hz⟩ => by
      rw [ev]
      exact Dp.lst (sq_of (by rw [hp, ex, show x = _ from hx, show y = _ from hy, show z = _ from hz])) (.cons (.bl _) (.cons (.bl _) (.cons (.bl _) .nil)))) (sh_list shb).s (sh_list shb).s) (by simp [PyData.eqv, PyData.eqvAll])) fun _ => vw_or1 (c := false) (VT.to (vt_ne (ve_len (xs := isI cl0) L.B.len (vn_ixL (i := 0) (R := fun xs H8 => ∃ a r, xs = V.ref a :: r ∧ H8 a = some (.lst (isI cl0))) ((vn_climbLe L.climb hr hk hn5 hles hVs hV2 hcs hc2 (kE eGH rfl) (stE eGH rfl) (oE eGH rfl)).imp fun v H' _ h => ?_) ve_int (fun vs H H' e ⟨a, r, h1, h2⟩ => ⟨a, r, h1, e _ _ h2⟩) fun xs H' _ ⟨a, r, h1, h2⟩ => ⟨.ref a, by rw [h1]; exact atI_nat (j := 0) rfl, a, rfl, sq_of h2⟩)) (ve_p1 (pv (stb_P _ _ _ eGH hp) (lv 1)))) (by rw [isI_len, (clo cl0 List.mem_cons_self).1, decide_eq_true rfl]; rfl))).t rfl) rfl fun HI eI => ?_
  · rw [hcl] at h
    obtain ⟨q1, qs, ev, _, hq, hqs⟩ := h
    cases hqs with
    | cons t0 tr => exact ⟨q1, _, ev, sq_of hq, _, _, rfl, t0.2⟩
  have eIH := eGH.trans eI
  -- handed, start_here
  refine gs_par (i := 16) (j := 17) sc54.nd ((vn_list L.B.list (oE eIH rfl)).here fun v16 HJ eJ h16 => ?_)
  have eJH := eIH.trans eJ
  refine (vn_call L.lstart (hr.mono (by decide)) (va1 (pv (stb_P _ _ _ eJH hp) (lv 1)) stb_P) (P := newL HJ (isI k.start)) (by
      rintro _ H2 e2 ⟨x, rfl, hx⟩
      exact ⟨_, ⟨x, k, rfl, hx, by omega, rfl⟩, fun u H3 e3 eu => eu.back e2⟩)).here fun v17 HK eK h17 => ?_
  obtain ⟨p16, rfl, hp160, hp16⟩ := h16
  obtain ⟨p17, rfl, hp170, hp17⟩ := h17
  have h1716 : p17 ≠ p16 := fun z => by rw [z, hp16] at hp170; cases hp170
  have eKH := eJH.trans eK
  have hp16K := eK _ _ hp16
  have h16H : H p16 = none := fresh_back eIH hp160
  have cs : climbL k S0 o2 o2 = [o2] := climbL_self _ _
  have css : climbL k S0 k.start k.start = [k.start] := climbL_self _ _
  have hle2 : LeK k o2 o2 := le_refl hV2
  have hles' : LeK k k.start k.start := le_refl hVs
  -- asked
  refine vs_set (i := 15) sc54.nd (P := fun v H' => ∃ p x, v = .ref p ∧ H p = none ∧ p ≠ p16 ∧ H' p = some (.lst [V.bl true, x]) ∧ LLat (fun a => a = p16) [o2] x H') ((vn_lst (va2 (P1 := Is (.bl true)) (P2 := newLL HK [o2]) (ve_notN' (vn_climbLe L.climb hr hk hn5 hles hVs hV2 hcs hc2 (kE eKH rfl) (llv (lI hp17 (Ex.refl _)) (lv 17)) (llv (lI hp16K (Ex.refl _)) (lv 16))) fun v H' h => newLL_ne h) ((vn_climbLe L.climb hr hk hn5 hle2 hV2 hV2 hc2 hc2 (kE eKH rfl) (llv (lI hp16K (Ex.refl _)) (lv 16)) (llv (lI hp16K (Ex.refl _)) (lv 16))).imp fun v H' _ h => by rw [cs] at h; exact h) stb_is stb_newLL) (fun vs H H' e ⟨x, y, h, hx, hy⟩ => ⟨x, y, h, hx, stb_newLL _ _ _ e hy⟩) fun vs _ ⟨_, _, e, _⟩ => by rw [e]; simp).imp fun v H' e' ⟨p, xs, ev, hp0, hp, x, y, ex, hx, hy⟩ => ⟨p, y, ev, fresh_back eKH hp0, fun z => (by rw [z, hp16K] at hp0; cases hp0), by rw [hp, ex, show x = _ from hx], newLL.at hy fun a ha q => (by rw [show a = p16 from ha, hp16K] at q; cases q)⟩) fun v15 HL eL h15 => ?_
  obtain ⟨p15', x15, rfl, h15n, h1516, h15L, hx15⟩ := h15
  have eLH := eKH.trans eL
  -- handed[:] = start_here
  refine vs_setAll (l := p16) (b := p17) (lv 16) (lv 17) (eL _ _ hp16K) (eL _ _ hp17) (Ne.symm h1716) (by rw [isI_len, isI_len, VL.len hV2, VL.len hVs]; omega) fun HM eM => ?_
  have eMH : Ex H (upd HM p16 (.lst (isI k.start))) := Ex.mut (eLH.trans eM) h16H
  have hM16 : (upd HM p16 (.lst (isI k.start))) p16 = some (.lst (isI k.start)) := upd_same
  have hM17 : (upd HM p16 (.lst (isI k.start))) p17 = some (.lst (isI k.start)) := by rw [upd_ne h1716]; exact eM _ _ (eL _ _ hp17)
  have hM15 : (upd HM p16 (.lst (isI k.start))) p15' = some (.lst [V.bl true, x15]) := by rw [upd_ne h1516]; exact eM _ _ h15L
  have hMx : LLat (fun a => a = p16) [o2] x15 (upd HM p16 (.lst (isI k.start))) := (hx15.kq (.of eM)).kq fun b o hb ho => by rw [upd_ne hb]; exact ho
  generalize upd HM p16 (.lst (isI k.start)) = HM at eMH hM16 hM17 hM15 hMx
  -- asked + ..
  have askS : ∀ d ∈ [PyData.bool true, dLL [o2], dLL [k.start], dLL [k.start]], Sh 2 d := fun d hd => by
    simp only [List.mem_cons, List.not_mem_nil, or_false] at hd
    rcases hd with rfl | rfl | rfl | rfl
    · exact (sh_bool _).mono (by decide)
    all_goals exact dLL_sh _
  refine vs_set (i := 15) sc54.nd (P := isD K (.list [.bool true, dLL [o2], dLL [k.start], dLL [k.start]])) (vn_op op_cat (Pa := Is (.ref p15')) (Pb := fun v H' => ∃ p x y, v = .ref p ∧ H' p = some (.lst [x, y]) ∧ isLL K [k.start] x H' ∧ isLL K [k.start] y H') (lv 15) ((vn_lst (va2 (P1 := isLL K [k.start]) (P2 := isLL K [k.start]) ((vn_climbLe L.climb hr hk hn5 hles' hVs hVs hcs hcs (kE eMH rfl) (llv (lI hM17 (Ex.refl _)) (lv 17)) (llv (lI hM16 (Ex.refl _)) (lv 16))).imp fun v H' _ h => by rw [css] at h; exact h.l) ((vn_climbLe L.climb hr hk hn5 hles' hVs hVs hcs hcs (kE eMH rfl) (llv (lI hM17 (Ex.refl _)) (lv 17)) (llv (lI hM17 (Ex.refl _)) (lv 17))).imp fun v H' _ h => by rw [css] at h; exact h.l) stb_isLL stb_isLL) (fun vs H H' e ⟨x, y, h, hx, hy⟩ => ⟨x, y, h, stb_isLL _ _ _ e hx, stb_isLL _ _ _ e hy⟩) fun vs _ ⟨_, _, e, _⟩ => by rw [e]; simp).imp fun v H' _ ⟨p, xs, ev, _, hp, x, y, ex, hx, hy⟩ => ⟨p, x, y, ev, by rw [hp, ex], hx, hy⟩) stb_is (by
    rintro _ _ H5 e5 rfl ⟨p, x, y, rfl, hpx, hx, hy⟩ Q' kk
    refine ⟨p15', p, _, _, rfl, rfl, e5 _ _ hM15, hpx, sz_of (by simp), fun l hl => kk _ _ (Ex.new hl) ?_⟩
    exact Dp.lst (sq_of upd_same) (.cons (.bl _) (.cons (hMx.kq (.of (e5.trans (Ex.new hl)))).d (.cons (stb_isLL _ _ _ (Ex.new hl) hx).d (.cons (stb_isLL _ _ _ (Ex.new hl) hy).d .nil)))))) fun v15 HN eN h15 => ?_
  have eNH := eMH.trans eN
  refine vs_no (c := false) (VT.to (vt_neD (d := .list [.bool true, dLL [o2], dLL [k.start], dLL [k.start]]) (d' := .list [.bool true, dLL [o2], dLL [k.start], dLL [k.start]]) hu64 ((lv 15 : VE _ _ _ _ v15).imp fun u H8 e8 eu => by rw [show u = _ from eu]; exact Dp.mono e8 h15) ((vn_lst (va4 (ve_bl (c := true)) (vn_one1 (oE eNH rfl)) (vn_one1 (llv (lI hM17 eN) (lv 17))) (vn_one1 (llv (lI hM17 eN) (lv 17))) stb_is stb_isD stb_isD stb_isD) (fun vs H H' e ⟨x, y, z, t, h, hx, hy, hz, ht⟩ => ⟨x, y, z, t, h, hx, stb_isD _ _ _ e hy, stb_isD _ _ _ e hz, stb_isD _ _ _ e ht⟩) fun vs _ ⟨_, _, _, _, e, _⟩ => by rw [e]; simp).imp fun v H' _ ⟨p, xs, ev, _, hp, x, y, z, t, ex, hx, hy, hz, ht⟩ => by
      rw [ev]
      exact Dp.lst (sq_of (by rw [hp, ex, show x = _ from hx])) (.cons (.bl _) (.cons hy (.cons hz (.cons ht .nil))))) (sh_list askS).s (sh_list askS).s) (by
        have e1 := eqv_dLL [o2] [o2]
        have e2 := eqv_dLL [k.start] [k.start]
        rw [decide_eq_true rfl] at e1 e2
        simp only [PyData.eqv, PyData.eqvAll] at e1 e2 ⊢
        have l1 : ∀ a : List Int, PyData.eqvAll [dL a] [dL a] = true := fun a => by simp only [PyData.eqvAll, eqv_dL]; simp
        simp [l1])) rfl fun HO_ eO => ?_
  have eOH := eNH.trans eO
  -- told
  refine vs_set (i := 8) sc54.nd (vn_climbLe L.climb hr hk hn5 hle2 hV2 hV2 hc2 hc2 (kE eOH rfl) (oE eOH rfl) (oE eOH rfl)) fun v8 HP eP h8 => ?_
  rw [cs] at h8
  obtain ⟨p8, ps8, rfl, hp80, hp8, hps8⟩ := h8
  have ePH := eOH.trans eP
  cases hps8 with
  | cons b0 bt =>
  cases bt
  rename_i b8
  refine vs_app (l := b8) b0.2 (ve_ixL (i := 0) (v := .ref b8) ((lv 8 : VE _ _ _ _ (.ref p8)).imp fun u H8 e8 eu => (⟨p8, eu, sq_of (e8 _ _ hp8)⟩ : isL K ([b8].map V.ref) u H8)) ve_int (atI_nat (j := 0) rfl)) (ve_int (i := 9)) stb_is (by rw [isI_len, VL.len hV2]; omega) fun vz HR eR hz => ?_
  have eRH : Ex H (upd HR b8 (.lst (isI o2 ++ [vz]))) := Ex.mut (ePH.trans eR) (fresh_back eOH b0.1)
  show VS _ _ _ _ (upd HR b8 (.lst (isI o2 ++ [vz])))
  generalize upd HR b8 (.lst (isI o2 ++ [vz])) = HS at eRH
  refine vs_ret (P := Is (.bl true)) (VE.to (ve_and (c := true) (c' := true) (VE.to (ve_eqD (d := dLL [o2]) (d' := dLL [o2]) hu64 ((vn_climbLe L.climb hr hk hn5 hle2 hV2 hV2 hc2 hc2 (kE eRH rfl) (oE eRH rfl) (oE eRH rfl)).imp fun v H' _ h => by rw [cs] at h; exact h.l.d) (vn_one1 (oE eRH rfl)) (dLL_sh _).s (dLL_sh _).s) (by rw [eqv_dLL, decide_eq_true rfl])) fun _ => ve_one (VE.to (ve_eq (ve_len L.B.len (oE eRH rfl)) (ve_p1 (pv (stb_P _ _ _ eRH hp) (lv 1)))) (by rw [isI_len, VL.len hV2, decide_eq_true rfl]))) rfl) fun v H' e' ev => by rw [show v = _ from ev]; exact fin H' (eRH.trans e')
end
end W47
namespace W47
open PySem PySem.Spec PyProof.Rows L2 Evl C47
section
variable {P : Program} {w : World} {K : PySem.W.Frag} {mg : Str → Option Value} {base : Heap} {C : Addr}
theorem LK.k5 {k : Kd} (h : LK k) : k.n ≤ 5 ∨ (k.nm = .plain ∧ k.n ≤ 7) := .inl h.2.1
/-- _law_right -/
theorem dg_right (F : FnP K mg "_law_right" (top 54)) (L : LD P w K mg base C) : DG P w K mg base "_law_right" 8 ["_law_generator_here"] spLRi := by
  refine dg_gen F sc54 (fun vs H Q E ⟨g, e, _⟩ => by rw [e]; rfl) (fun _ _ _ _ _ _ us hl => match us, hl with | [_], _ => rfl) ?_
  rintro f cdv A outer s H vs Q E hgd hr ⟨g, rfl, hg, q⟩
  refine gs_set (i := 1) sc54.nd (ge_call L.lkind (hr.mono (by decide)) ((va1 (lv 0 : VE _ _ _ _ (.ref g)) stb_is).here ?_))
  rintro _ H1 e1 ⟨_, rfl, rfl⟩
  refine ⟨g, 2000, rfl, Gn.ex e1 hg, by omega, fun k v H2 hLK kp2 hg2 hp => ?_⟩
  obtain ⟨hk, hn5, hrg⟩ := id hLK
  have kp02 : Kp g H H2 := (Kp.of e1).trans kp2
  refine gs_par (i := 2) (j := 3) sc54.nd ((vn_kind (k := k) L.kind (hr.mono (by decide)) L.T.mgC hk hLK.k5 (ve_p0 (pv hp (lv 1))) (ve_p1 (pv hp (lv 1)))).here fun kv_ H3 e3 hkd => ?_)
  refine ge_call L.lrow (hr.mono (by decide)) ((va3 (lv 0 : VE _ _ _ _ (.ref g)) (lv 1 : VE _ _ _ _ v) (ve_int (i := 10)) stb_is stb_is stb_is).here ?_)
  rintro _ H4 e4 ⟨_, w2, _, rfl, rfl, ew, rfl⟩
  have ew : v = w2 := (show w2 = v from ew).symm
  subst ew
  have e34 := e3.trans e4
  refine ⟨g, v, k, 10, 2002, rfl, Gn.ex e34 hg2, stb_P _ _ _ e34 hp, hLK, by omega, by omega, fun row ar H5 hrow hrl kp5 hg5 har0 har => ?_⟩
  have hg4 := Gn.ex e34 hg2
  have kp25 : Kp g H2 H5 := (Kp.of e34).trans kp5
  have hp5 := hp.kp hg2 kp25
  have hkd5 := (stb_K _ _ _ e4 hkd).kp hg4 kp5
  have harg : ar ≠ g := Kp.ne hg4 har0
  refine vs_set (i := 4) sc54.nd (vn_call L.lgr (hr.mono (by decide)) (va2 (pv hp5 (lv 1)) (llv (⟨ar, rfl, sq_of har⟩ : isL K (isN row) (.ref ar) H5) (lv 3)) stb_P stb_isL) (P := newL H5 (isI (greedyL k row))) (by
    rintro _ H6 e6 ⟨x, y, rfl, hx, hy⟩
    exact ⟨_, ⟨x, y, k, row, rfl, hx, hy, hrow, hk, by omega, rfl⟩, fun u H7 e7 eu => eu.back e6⟩)) fun _ H6 e6 ho => ?_
  obtain ⟨ao, rfl, hao0, hao⟩ := ho
  have kp06 : Kp g H H6 := kp02.trans (kp25.trans (Kp.of e6))
  refine right_loop L hgd hr hLK ((Gn.ex e6 hg5).mono (by omega)) (stb_P _ _ _ e6 hp5) (stb_K _ _ _ e6 hkd5) (e6 _ _ har) harg hao (Kp.ne hg5 hao0) hrow hrl fun c5 c6 c7 c8 c9 c10 c11 c12 c13 H7 kp7 => ?_
  have hg6 := Gn.ex e6 hg5
  exact right_tail L hr hLK ((stb_P _ _ _ e6 hp5).kp hg6 kp7) ((stb_K _ _ _ e6 hkd5).kp hg6 kp7) (kp7 _ _ (Kp.ne hg5 hao0) hao) (vgreedy hk hrow) (Nat.le_trans (crs_greedy' hk hrow) hrl) fun H' e' => q H' (kp06.trans (kp7.trans (Kp.of e')))
end
section
variable {X : Cx} {σ : L2.St} {H H' : Hp} {a b e : Expr} {es : List Expr} {pos p : Pos} {QB QB0 : Bool → Hp → Prop} {rest body : List Stmt} {D : Ends}
theorem gt_mono (h : anyT X a σ H QB0) (i : ∀ v H', QB0 v H' → QB v H') : anyT X a σ H QB := ⟨fun σ H Q => ∃ Q0, anyT X a σ H Q0 ∧ ∀ v H', Q0 v H' → Q v H', ⟨fun pins s σ H Q I ⟨Q0, h, i⟩ => thn (pt_any.run pins s σ H Q0 I h) fun v s' ⟨H', I', q⟩ => ⟨H', I', i _ _ q⟩⟩, QB0, h, i⟩
theorem gt_val (h : anyE X e σ H fun v H1 => ∃ c, v = .bl c ∧ QB c H1) (he : ∀ whole, isTrue e X.env whole = (do let v ← whole; standAt e.pos; holding [v] (truthy v)) := by intro _; rfl) : anyT X e σ H QB := ⟨_, pt_val pe_any he, h⟩
theorem gt_not (h : anyT X a σ H fun c H1 => QB (!c) H1) : anyT X (.UnaryOp .Not a pos) σ H QB := ⟨_, pt_not pt_any, h⟩
theorem gs_no (h : anyT X a σ H fun c H1 => c = false ∧ VS X rest D σ H1) : VS X (.If a body [] pos :: rest) D σ H := vs_cons (ps_if pt_any pss_any pss_any) (gt_mono h fun c H1 ⟨ec, q⟩ => by
  subst ec
  exact vs_nil q)
/-- [i, j, ..] -/
theorem PL_ints : ∀ (o : List Int) {vs : List V} {H : Hp}, PL (o.map fun i => Is (.int i)) vs H → vs = isI o
  | [], _, _, .nil => rfl
  | i :: o, _, _, .cons h t => by
    rw [PL_ints o t, show _ = V.int i from h]
    rfl
theorem vn_ints (o : List Int) (h : VA X es σ H (PL (o.map fun i => Is (.int i)))) (hl : o.length ≤ 100) : VN X (.List es pos) σ H (newL H (isI o)) :=
  (vn_lst h (stb_PL fun P hP => by
    obtain ⟨i, _, rfl⟩ := List.mem_map.mp hP
    exact stb_is) fun vs _ h => by
    have := paired_len h
    rw [List.length_map] at this
    omega).imp fun v H' _ ⟨p, xs, ev, hp0, hp, hx⟩ => ⟨p, ev, hp0, by rw [hp, PL_ints o hx]⟩
/-- [[..], [..]] -/
theorem PL_lists {K : PySem.W.Frag} : ∀ (os : List (List Int)) {vs : List V} {H : Hp}, PL (os.map fun o => isL K (isI o)) vs H → DpAll K H vs (os.map dL)
  | [], _, _, .nil => .nil
  | o :: os, _, _, .cons h t => .cons (isL.d h) (PL_lists os t)
theorem vn_lists (os : List (List Int)) (h : VA X es σ H (PL (os.map fun o => isL X.K (isI o)))) (hl : os.length ≤ 100) : VN X (.List es pos) σ H (isV X.K (dLL os)) :=
  (vn_lst h (stb_PL fun P hP => by
    obtain ⟨i, _, rfl⟩ := List.mem_map.mp hP
    exact stb_isL) fun vs _ h => by
    have := paired_len h
    rw [List.length_map] at this
    omega).imp fun v H' _ ⟨p, xs, ev, hp0, hp, hx⟩ => by
      rw [ev]
      exact .lst (.lst (sq_of hp) (PL_lists os hx)) (fun d hd => by
        obtain ⟨o, _, rfl⟩ := List.mem_map.mp hd
        exact itD_dL o) (by rw [List.length_map]; omega)
end
end W47
namespace C47
/-! ### the law's own cases -/
def p3 : Kd := ⟨.plain, 3⟩
def p4 : Kd := ⟨.plain, 4⟩
def p7 : Kd := ⟨.plain, 7⟩
theorem ok3 : p3.ok := show 1 ≤ 3 by decide
theorem ok4 : p4.ok := show 1 ≤ 4 by decide
theorem ok7 : p7.ok := show 1 ≤ 7 by decide
theorem v3 {o : List Int} (h : o.isPerm [0, 1, 2] = true) : VL p3 o := List.isPerm_iff.mp h
theorem v4 {o : List Int} (h : o.isPerm [0, 1, 2, 3] = true) : VL p4 o := List.isPerm_iff.mp h
theorem v7 {o : List Int} (h : o.isPerm [0, 1, 2, 3, 4, 5, 6] = true) : VL p7 o := List.isPerm_iff.mp h
theorem case1 : IsClimb p3 [0, 1, 2] [1, 2, 0] [[0, 1, 2], [1, 0, 2], [1, 2, 0]] := ⟨rfl, rfl, ⟨by decide, (bel_le ok3 (v3 (by decide)) (v3 (by decide))).mp (by decide)⟩, ⟨by decide, (bel_le ok3 (v3 (by decide)) (v3 (by decide))).mp (by decide)⟩, trivial⟩
theorem case2 : bel p3 [1, 2, 0] [2, 0, 1] = false := by decide
theorem case3 : ¬ IsClimb p4 [1, 0, 2, 3] [0, 2, 3, 1] [[1, 0, 2, 3], [0, 2, 3, 1]] := fun h => by
  have := (bel_le ok4 (v4 (by decide)) (v4 (by decide))).mpr h.2.2.1.2
  revert this
  decide
theorem c321 : crs p3 [2, 1, 0] = 3 := by decide
theorem c21 : crs p7 [6, 5, 4, 3, 2, 1, 0] = 21 := by decide
end C47
namespace W47
open PySem PySem.Spec PyProof.Rows L2 Evl C47
section
variable {P : Program} {w : World} {K : PySem.W.Frag} {mg : Str → Option Value} {base : Heap} {C : Addr}
theorem ve_lenP {X : Cx} {σ : L2.St} {H : Hp} {a : Expr} {pos p : Pos} {P : PV} {n : Nat} (hm : X.mg "len" = none) (ha : VN X a σ H P) (sP : Stb P) (h : ∀ v H', P v H' → ∃ xs, isL X.K xs v H' ∧ xs.length = n) (hg : Gl X "len" := by rfl) (hs : starEach [a] X.env = (false, eval a X.env) :: starEach [] X.env := by rfl) (hpl : (backTo pos (starEach [] X.env)).any (·.1) = false := by rfl) : VE X (.Call (.Name "len" p) [a] [] pos) σ H (.int (n : Int)) :=
  vn_callB call_len_seq hm boot_len (va1 ha sP hs) (fun vs H1 e1 ⟨v, e, pv⟩ Q k => by
    obtain ⟨xs, ⟨q, ev, hq⟩, hl⟩ := h v H1 pv
    exact ⟨q, xs, by rw [e, ev], .inl hq, k _ H1 (Ex.refl H1) (by rw [hl])⟩) hg (by decide) (by decide) hs hpl
theorem newLL_len {K : PySem.W.Frag} {H0 H : Hp} {os : List (List Int)} {v : V} (h : newLL H0 os v H) : ∃ xs, isL K xs v H ∧ xs.length = os.length := by
  obtain ⟨p, ps, e, _, hp, hps⟩ := h
  exact ⟨_, ⟨p, e, sq_of hp⟩, by rw [List.length_map, paired_len hps]⟩
theorem le3 : LeK p3 [0, 1, 2] [2, 1, 0] := (bel_le ok3 (v3 (by decide)) (v3 (by decide))).mp (by decide)
theorem le7 : LeK p7 [0, 1, 2, 3, 4, 5, 6] [6, 5, 4, 3, 2, 1, 0] := bel_start ok7 (v7 (by decide))
theorem len3 : (climbL p3 S0 [0, 1, 2] [2, 1, 0]).length = 4 := by rw [(climbL_ok ok3 (S := S0) le3).2.2, c321]; rfl
theorem len7 : (climbL p7 S0 [0, 1, 2, 3, 4, 5, 6] [6, 5, 4, 3, 2, 1, 0]).length = 22 := by rw [(climbL_ok ok7 (S := S0) le7).2.2, c21]; rfl
/-- law -/
def spLaw (K : PySem.W.Frag) : Sp := fun vs H Q _ => ∃ (a : Addr) (ns : List Int), vs = [.ref a] ∧ SqL K H a (isI ns) ∧ ∀ H', Q (.bl true) H'
abbrev NL : List Str := ["_law_script", "_law_index", "_law_plain", "_law_wide"]
theorem sc55 : FnScope NL ["_law_script"] (defScope (top 55)) := ⟨rfl, rfl, rfl, by decide +kernel, rfl, by decide +kernel, by decide +kernel⟩
theorem dg_law (F : FnP K mg "law" (top 55)) (L : LD P w K mg base C) (DR : DG P w K mg base "_law_right" 8 ["_law_generator_here"] spLRi) (D1 : DF P w K mg base "_law_generator" 2 ["_law_script", "_law_index"] (spOf (prGen K))) : DG P w K mg base "law" 9 ["_law_script"] (spLaw K) := by
  refine dg_gen F sc55 (fun vs H Q E ⟨a, ns, e, _⟩ => by rw [e]; rfl) (fun _ _ _ _ _ _ us hl => match us, hl with | [_], _ => rfl) ?_
  rintro f cdv A outer s H vs Q E hgd hr ⟨a, ns, rfl, ha, q⟩
  refine vs_forR1 (i := 1) (z := 3) sc55.nd L.B.range ve_int (by omega) (fun j σ' H' => ∃ c1, σ' = [some (.ref a), c1, none, none] ∧ Ex H H') (fun H1 e1 => ⟨none, rfl, e1⟩) ?_ ?_
  · rintro j σ' H0 hj ⟨c1, rfl, e0⟩
    refine gs_no (gt_not (gt_val (ge_callG DR hgd hr (ga_cons ((vn_call D1 (hr.mono (by decide)) (va2 (llv (⟨a, rfl, ex_l e0 ha⟩ : isL K (isI ns) (.ref a) H0) (lv 0)) (lv 1 : VE _ _ _ _ (.int (j : Int))) stb_isL stb_is) (P := fun v H' => ∃ g, v = .ref g ∧ H0 g = none ∧ Gn g 2000 H') (by
      rintro _ H1 e1 ⟨x, _, rfl, hx, rfl⟩
      exact ⟨_, ⟨x, ns, j, rfl, hx, by omega, rfl⟩, fun v H2 e2 ⟨g, eg, hg0, hg⟩ => ⟨g, eg, fresh_back e1 hg0, hg⟩⟩)).here fun v H1 e1 ⟨g, eg, hg0, hg⟩ => ga_nil ⟨g, by rw [eg], hg, fun H2 kp => ⟨true, rfl, rfl, vs_nil ⟨_, rfl, fun b o ho => ?_⟩⟩⟩)))))
    have h0 := e0 b o ho
    exact kp b o (fun z => by rw [z, hg0] at h0; cases h0) (e1 b o h0)
  rintro σ' H0 ⟨c1, rfl, e0⟩
  have kM := L.T.mgC
  refine vs_set (i := 2) sc55.nd (vn_kind (k := p3) L.kind (hr.mono (by decide)) kM ok3 (.inl (by decide)) ve_str ve_int) fun kp_ H1 e1 hk3 => ?_
  refine vs_no (c := false) (VT.to (vw_or (c := false) (VT.to (vt_notB (c := true) (d := true) (vn_call L.ic (hr.mono (by decide)) (va4 (P1 := KAt C p3) (P2 := isL K (isI [0, 1, 2])) (P3 := isL K (isI [1, 2, 0])) (P4 := isV K (dLL [[0, 1, 2], [1, 0, 2], [1, 2, 0]])) (kv (i := 0) hk3 (lv 2))
      ((vn_ints [0, 1, 2] (va_p ve_int stb_is <| va_p ve_int stb_is <| va_p ve_int stb_is va_p0) (by decide)).imp fun _ _ _ h => h.l)
      ((vn_ints [1, 2, 0] (va_p ve_int stb_is <| va_p ve_int stb_is <| va_p ve_int stb_is va_p0) (by decide)).imp fun _ _ _ h => h.l)
      (vn_lists [[0, 1, 2], [1, 0, 2], [1, 2, 0]] (va_p ((vn_ints [0, 1, 2] (va_p ve_int stb_is <| va_p ve_int stb_is <| va_p ve_int stb_is va_p0) (by decide)).imp fun _ _ _ h => h.l) stb_isL <| va_p ((vn_ints [1, 0, 2] (va_p ve_int stb_is <| va_p ve_int stb_is <| va_p ve_int stb_is va_p0) (by decide)).imp fun _ _ _ h => h.l) stb_isL <| va_p ((vn_ints [1, 2, 0] (va_p ve_int stb_is <| va_p ve_int stb_is <| va_p ve_int stb_is va_p0) (by decide)).imp fun _ _ _ h => h.l) stb_isL va_p0) (by decide)) stb_K stb_isL stb_isL stb_isV) (P := Is (.bl true)) (by
      rintro _ H6 e6 ⟨y1, y2, y3, y4, rfl, q1, q2, q3, q4⟩
      refine ⟨_, ⟨y1, y2, y3, y4, p3, [0, 1, 2], [1, 2, 0], _, rfl, q1, q2, q3, ⟨v3 (by decide), by decide⟩, ⟨v3 (by decide), by decide⟩, ok3, by decide, q4, rfl⟩, fun u H7 e7 eu => ?_⟩
      rw [show u = _ from eu, clB_iff.mpr ⟨_, rfl, fun v hv => ?_, case1⟩]
      simp only [List.mem_cons, List.not_mem_nil, or_false] at hv
      rcases hv with rfl | rfl | rfl <;> exact v3 (by decide))) ve_bl) rfl) fun _ => vw_or1 (c := false) (VT.to (vt_notN (x := .non) ((vn_call L.climb (hr.mono (by decide)) (va3 (P1 := KAt C p3) (P2 := isL K (isI [1, 2, 0])) (P3 := isL K (isI [2, 0, 1])) (kv (i := 0) hk3 (lv 2))
      ((vn_ints [1, 2, 0] (va_p ve_int stb_is <| va_p ve_int stb_is <| va_p ve_int stb_is va_p0) (by decide)).imp fun _ _ _ h => h.l)
      ((vn_ints [2, 0, 1] (va_p ve_int stb_is <| va_p ve_int stb_is <| va_p ve_int stb_is va_p0) (by decide)).imp fun _ _ _ h => h.l) stb_K stb_isL stb_isL) (P := Is .non) (by
      rintro _ H6 e6 ⟨y1, y2, y3, rfl, q1, q2, q3⟩
      refine ⟨_, ⟨y1, y2, y3, p3, [1, 2, 0], [2, 0, 1], rfl, q1, q2, q3, ⟨v3 (by decide), by decide⟩, ⟨v3 (by decide), by decide⟩, ok3, by decide, rfl⟩, fun u H7 e7 eu => ?_⟩
      rcases eu with ⟨z, _⟩ | ⟨_, z⟩
      · rw [case2] at z; cases z
      · exact z)))) rfl)).t rfl) rfl fun H2 e2 => ?_
  refine vs_set (i := 3) sc55.nd (vn_kind (k := p4) L.kind (hr.mono (by decide)) kM ok4 (.inl (by decide)) ve_str ve_int) fun kw_ H3 e3 hk4 => ?_
  refine vs_no (c := false) (VT.to (vt_notB (c := false) (d := false) (vn_call L.ic (hr.mono (by decide)) (va4 (P1 := KAt C p4) (P2 := isL K (isI [1, 0, 2, 3])) (P3 := isL K (isI [0, 2, 3, 1])) (P4 := isV K (dLL [[1, 0, 2, 3], [0, 2, 3, 1]])) (kv (i := 0) hk4 (lv 3))
      ((vn_ints [1, 0, 2, 3] (va_p ve_int stb_is <| va_p ve_int stb_is <| va_p ve_int stb_is <| va_p ve_int stb_is va_p0) (by decide)).imp fun _ _ _ h => h.l)
      ((vn_ints [0, 2, 3, 1] (va_p ve_int stb_is <| va_p ve_int stb_is <| va_p ve_int stb_is <| va_p ve_int stb_is va_p0) (by decide)).imp fun _ _ _ h => h.l)
      (vn_lists [[1, 0, 2, 3], [0, 2, 3, 1]] (va_p ((vn_ints [1, 0, 2, 3] (va_p ve_int stb_is <| va_p ve_int stb_is <| va_p ve_int stb_is <| va_p ve_int stb_is va_p0) (by decide)).imp fun _ _ _ h => h.l) stb_isL <| va_p ((vn_ints [0, 2, 3, 1] (va_p ve_int stb_is <| va_p ve_int stb_is <| va_p ve_int stb_is <| va_p ve_int stb_is va_p0) (by decide)).imp fun _ _ _ h => h.l) stb_isL va_p0) (by decide)) stb_K stb_isL stb_isL stb_isV) (P := Is (.bl false)) (by
      rintro _ H6 e6 ⟨y1, y2, y3, y4, rfl, q1, q2, q3, q4⟩
      refine ⟨_, ⟨y1, y2, y3, y4, p4, [1, 0, 2, 3], [0, 2, 3, 1], _, rfl, q1, q2, q3, ⟨v4 (by decide), by decide⟩, ⟨v4 (by decide), by decide⟩, ok4, by decide, q4, rfl⟩, fun u H7 e7 eu => ?_⟩
      rw [show u = _ from eu, clB_no (by
        rintro ⟨vs, e, _, h⟩
        rw [← dLL_inj e] at h
        exact case3 h)])) ve_bl) rfl) rfl fun H4 e4 => ?_
  have hk34 := stb_K _ _ _ ((e2.trans e3).trans e4) hk3
  refine vs_ret (P := Is (.bl true)) (VE.to (ve_and (c := true) (c' := true) (VE.to (ve_eq (ve_lenP (n := 4) L.B.len (vn_climbLe (k := p3) (o1 := [0, 1, 2]) (o2 := [2, 1, 0]) L.climb (hr.mono (by decide)) ok3 (by decide) le3 (v3 (by decide)) (v3 (by decide)) (by decide) (by decide) (kv (i := 0) hk34 (lv 2))
      ((vn_ints [0, 1, 2] (va_p ve_int stb_is <| va_p ve_int stb_is <| va_p ve_int stb_is va_p0) (by decide)).imp fun _ _ _ h => h.l)
      ((vn_ints [2, 1, 0] (va_p ve_int stb_is <| va_p ve_int stb_is <| va_p ve_int stb_is va_p0) (by decide)).imp fun _ _ _ h => h.l)) stb_newLL fun v H' h => by rw [← len3]; exact newLL_len h) ve_int) (by rw [dec_intV]; rfl)) fun _ => ve_one (VE.to (ve_eq (ve_lenP (n := 22) L.B.len (vn_call L.climb (hr.mono (by decide)) (va3 (P1 := KAt C p7) (P2 := isL K (isI [0, 1, 2, 3, 4, 5, 6])) (P3 := isL K (isI [6, 5, 4, 3, 2, 1, 0])) (vn_kind (k := p7) L.kind (hr.mono (by decide)) kM ok7 (.inr ⟨rfl, by decide⟩) ve_str ve_int)
      ((vn_ints [0, 1, 2, 3, 4, 5, 6] (va_p ve_int stb_is <| va_p ve_int stb_is <| va_p ve_int stb_is <| va_p ve_int stb_is <| va_p ve_int stb_is <| va_p ve_int stb_is <| va_p ve_int stb_is va_p0) (by decide)).imp fun _ _ _ h => h.l)
      ((vn_ints [6, 5, 4, 3, 2, 1, 0] (va_p ve_int stb_is <| va_p ve_int stb_is <| va_p ve_int stb_is <| va_p ve_int stb_is <| va_p ve_int stb_is <| va_p ve_int stb_is <| va_p ve_int stb_is va_p0) (by decide)).imp fun _ _ _ h => h.l) stb_K stb_isL stb_isL) (P := newLL H4 (climbL p7 S0 [0, 1, 2, 3, 4, 5, 6] [6, 5, 4, 3, 2, 1, 0])) (by
      rintro _ H6 e6 ⟨y1, y2, y3, rfl, q1, q2, q3⟩
      refine ⟨_, ⟨y1, y2, y3, p7, _, _, rfl, q1, q2, q3, ⟨v7 (by decide), by decide⟩, ⟨v7 (by decide), by rw [c21]; decide⟩, ok7, by decide, rfl⟩, fun u H7 e7 eu => ?_⟩
      rcases eu with ⟨_, z⟩ | ⟨z, _⟩
      · exact z.back e6
      · rw [(bel_le ok7 (v7 (by decide)) (v7 (by decide))).mpr le7] at z; cases z)) stb_newLL fun v H' h => by rw [← len7]; exact newLL_len h) ve_int) (by rw [dec_intV]; rfl))) rfl) fun v H5 e5 ev => by rw [show v = _ from ev]; exact q H5
end
end W47
namespace W47
open PySem PySem.Spec PyProof.Rows L2 Evl C47
/-- the defs, by name and place -/
def defsL : List (Str × Nat) := ([("is_whole", 8), ("is_between", 9), ("check_number", 10), ("check_kind", 12), ("is_crossed", 13), ("by_step", 14), ("falls_of", 15), ("crossings_of", 16), ("crossings_between", 17), ("is_order_list", 18), ("is_let_order", 19), ("check_order", 20), ("least_row_of", 22), ("made_by", 24), ("check_two_orders", 26), ("lesser", 27), ("is_below", 28), ("is_beneath", 29), ("unlike_sorted", 31), ("nexts_below", 32), ("climb", 33), ("is_climb", 34)] : List (Str × Nat)) ++
  ([("_law_hash", 36), ("_law_random", 37), ("_law_cell", 38), ("_law_generator", 39), ("_law_kind", 40), ("_law_many", 41), ("_law_start", 42), ("_law_step", 43), ("_law_crossed", 44), ("_law_made", 45), ("_law_row", 46), ("_law_least", 47), ("_law_greedy", 48), ("_law_order", 49), ("_law_order_here", 50), ("_law_is_climb", 51), ("_law_nexts", 52), ("_law_bent", 53), ("_law_right", 54), ("law", 55)] : List (Str × Nat))
theorem law_ok {P : Program} {w : World} {K : PySem.W.Frag} {mg : Str → Option Value} {base : Heap} {C : Addr} (F : ∀ (i : Nat) (p : Str × Nat), defsL[i]? = some p → FnP K mg p.1 (top p.2)) (M1 : MtP K C "name" "Kind.name" (kst 1)) (M2 : MtP K C "size" "Kind.size" (kst 2)) (M3 : MtP K C "steps" "Kind.steps" (kst 3)) (M4 : MtP K C "start" "Kind.start" (kst 4))
    (MK : MkP K C (kst 0)) (T : TK K mg C) (B : Bl mg) (TBo : TB K w mg) (hM : ∃ t, mg "MOST_CROSSINGS" = some (.int 60 t)) : DG P w K mg base "law" 9 ["_law_script"] (spLaw K) := by
  have M : KM P w K mg base C := ⟨dm_name M1 T, dm_size M2 T, dm_steps M3 T B, dm_start M4 T B, T⟩
  have whole := df_whole (P := P) (w := w) (base := base) (F 0 _ rfl) B
  have btw := df_btw (F 1 _ rfl) whole
  have chk := df_chk (F 2 _ rfl) btw
  have kind := di_init MK T B TBo chk
  have ckind := df_ckind (P := P) (w := w) (base := base) (F 3 _ rfl) T B
  have cr := df_cr (F 4 _ rfl) M B
  have st := df_step (F 5 _ rfl) M B
  have fl := df_falls (F 6 _ rfl) M B cr
  have bet := df_bet (F 8 _ rfl) M B
  have crs := df_crs (F 7 _ rfl) M B bet
  have ol := df_ol (F 9 _ rfl) M B whole
  have let_ := df_let (F 10 _ rfl) hM ol crs
  have co := df_co (F 11 _ rfl) let_
  have row := df_row (F 12 _ rfl) B fl st
  have made := df_made (F 13 _ rfl) M st
  have c2 := df_c2 (F 14 _ rfl) ckind co
  have les := df_lesser (F 15 _ rfl) cr st
  have bel := df_bel (F 16 _ rfl) M fl les st
  have bn := df_bn (F 17 _ rfl) c2 bel
  have us := df_us (P := P) (w := w) (base := base) (F 18 _ rfl) B
  have nx := df_nx (F 19 _ rfl) B row made crs us
  have climb := df_climb (F 20 _ rfl) B c2 bel nx
  have ic := df_ic (F 21 _ rfl) B c2 ol crs bel
  have climbK := dfk_of (F 20 _ rfl) climb fun _ _ _ _ _ _ ws hl => match ws, hl with | [_, _, _], _ => rfl
  have icK := dfk_of (F 21 _ rfl) ic fun _ _ _ _ _ _ ws hl => match ws, hl with | [_, _, _, _], _ => rfl
  have hash := df_hash (P := P) (w := w) (base := base) (F 22 _ rfl) B
  have rand := df_rand (F 23 _ rfl) B hash
  have cell := df_cell (P := P) (w := w) (base := base) (F 24 _ rfl) B
  have lgen := df_lgen (F 25 _ rfl) B cell
  have lkind := df_lkind (F 26 _ rfl) B rand
  have many := df_many (P := P) (w := w) (base := base) (F 27 _ rfl) B
  have lstart := df_lstart (P := P) (w := w) (base := base) (F 28 _ rfl) B
  have lst := df_lst (P := P) (w := w) (base := base) (F 29 _ rfl) B
  have lcr := df_lcr (P := P) (w := w) (base := base) (F 30 _ rfl)
  have lmade := df_lmade (F 31 _ rfl) lstart lst
  have lrow := df_lrow (F 32 _ rfl) B many rand
  have lle := df_lle (F 33 _ rfl) B many lst lcr
  have lgr := df_lgr (F 34 _ rfl) lstart lst lcr
  have lor := df_lor (F 35 _ rfl) B rand lrow lgr lmade
  have loh := df_loh (F 36 _ rfl) B lstart
  have lnx := df_lnx (F 38 _ rfl) B lmade
  have lic := df_lic (F 37 _ rfl) B loh lle lnx
  have lbe := df_lbe (F 39 _ rfl) B rand lor lstart
  have L : LD P w K mg base C := ⟨B, T, kind, rand, lkind, lrow, lgr, lmade, lor, lstart, lic, lbe, climb, climbK, bn, ic, icK⟩
  exact dg_law (F 41 _ rfl) L (dg_right (F 40 _ rfl) L) lgen
end W47
namespace W47
open PySem PySem.Spec PyProof.Rows L2
/-- the law's call: no text stands half shown about it -/
theorem law_callG {P : Program} {w : World} {K : PySem.W.Frag} {mg mb : Str → Option Value} {k : Nat} {fa a : Addr} {n x : Str} {sp : Sp} {s₁ : Shared} {vs : List Value} {ns : List Int}
    (KX : K.In s₁.heap) (hns : s₁.heap.Ns mainGlobals mg) (hb : s₁.heap.Ns builtinsNs mb) (hbb : ∀ x : Str, x ≠ "__name__" → mb x = bootBuiltins x) (hlim : s₁.heap.NoLimit) (hg : s₁.gens = #[]) (hmg : mg n = some (.ref fa))
    (ha : s₁.heap.get? a = some { cls := .type "list", data := .seq vs.toArray }) (hi : IntsAre vs ns) (hl : ns.length ≤ sizeLine) (hr : Room k callerA)
    (F : ∀ base : Heap, K.In base → base.Ns mainGlobals mg → DG P w K mg base n k [x] sp)
    (hsp : ∀ H : Hp, Only H → SqL K H a (ns.map V.int) → sp [.ref a] H (fun v _ => v = .bl true) fun _ _ _ => False) :
    codeAny (model P w) callerA (.call (.ref fa) ⟨[.ref a], []⟩) (fun r s' => r = .ok (.ret (.bool true)) ∧ OldK s₁.heap s'.heap ∧ s'.os = s₁.os ∧ AllBare s'.gens) s₁ := by
  have rv := vals_ints hi
  have lenV := hi.length
  have core : ∀ H : Hp, Only H → SqL K H a (ns.map V.int) → HOk P w H s₁.heap → (∀ b, H b ≠ none → b = a) → (H a ≠ none → K.lookup a = none) →
      codeAny (model P w) callerA (.call (.ref fa) ⟨[.ref a], []⟩) (fun r s' => r = .ok (.ret (.bool true)) ∧ OldK s₁.heap s'.heap ∧ s'.os = s₁.os ∧ AllBare s'.gens) s₁ := by
    intro H hO hS hok hA hK
    have free : ∀ {b : Addr} {o : Obj}, s₁.heap.get? b = some o → H b = none → (hidT s₁.heap H).get? b = some o := fun e q => hidT_get e q
    have nodict : ∀ {b : Addr} {o : Obj} {es : Array DictEntry} {ep : Nat}, s₁.heap.get? b = some o → o.data = .dict es ep → H b = none := fun {b o es ep} e d => by
      refine Decidable.byContradiction fun q => ?_
      have e' := hA b q
      subst e'
      rw [ha] at e
      cases e
      cases (show Data.seq vs.toArray _ = Data.dict es ep from d)
    have nsK : ∀ {b : Addr} {m : Str → Option Value}, s₁.heap.Ns b m → (hidT s₁.heap H).Ns b m := fun {b m} ⟨o, es, ep, e, d, r⟩ => ⟨o, es, ep, free e (nodict e d), d, r⟩
    have hKb : K.In (hidT s₁.heap H) := fun b o e => free (KX b o e) (by
      refine Decidable.byContradiction fun q => ?_
      have e' := hA b q
      subst e'
      rw [hK q] at e
      cases e)
    have hM : Mod K mg (hidT s₁.heap H) := ⟨hKb, nsK hns, ⟨mb, nsK hb, hbb⟩, let ⟨mc, h1, h2⟩ := hlim; ⟨mc, nsK h1, h2⟩⟩
    have e0 : Env0 P w K mg (hidT s₁.heap H) callerA [] s₁ H := ⟨rfl, hM, fun b o e => of_hidT e, Nat.le_of_eq (hidT_size _ _), trivial, fun b hb => absurd (show b ∈ ([] : List Addr) from hb) (by simp), hok, .of_eq hg⟩
    obtain ⟨f, fd, hmf, kp, bi, _, run⟩ := (F _ hKb (nsK hns)).ex
    have ef : f = fa := by
      have e := hmf.symm.trans hmg
      cases e
      rfl
    subst ef
    have bd := bi s₁ [.ref a] KX rfl
    refine codeAny_mono (run callerA [] s₁ H ⟨[.ref a], []⟩ [.ref a] [.ref a] _ _ rfl hr e0 bd (.cons rfl .nil) (hsp H hO hS)) fun r s' h => ?_
    cases r with
    | error e => exact (show False from h).elim
    | ok fl =>
      cases fl with
      | next => exact False.elim h
      | brk => exact False.elim h
      | cont => exact False.elim h
      | ret u =>
        obtain ⟨v, H', os, bare, un, hok', r', q⟩ := h
        have q' : v = .bl true := q
        subst q'
        obtain rfl : u = Value.bool true := r'
        refine ⟨rfl, OldK.of_keep fun b o e => ?_, os, bare⟩
        cases q : H b with
        | none => exact un.keep b o e q (by intro z; exact absurd (show b ∈ ([] : List Addr) from z) (by simp)) (by simp)
        | some u =>
          rcases hO b with z | ⟨ob, xs, z⟩
          · rw [q] at z; cases z
          · obtain ⟨e1, _⟩ := hok b _ z
            obtain ⟨e2, _⟩ := hok' b _ (un.frzs b ob _ z)
            rw [e] at e1
            cases e1
            exact e2
  cases hk : K.lookup a with
  | some o =>
    have e := KX a o hk
    rw [ha] at e
    cases e
    exact core (fun _ => none) (fun _ => .inl rfl) (.inr ⟨_, vs.toArray, _, hk, rfl, rfl, rfl, by rw [List.size_toArray, lenV]; exact hl, by simpa using rv⟩) (fun b u z => by cases (show (none : Option HO) = some u from z)) (fun b z => absurd rfl z) fun z => absurd rfl z
  | none =>
    have at1 : ∀ b, (fun b => if b = a then some (HO.frz { cls := .type "list", data := .seq vs.toArray } (.lst (ns.map V.int))) else none) b = if b = a then some (HO.frz { cls := .type "list", data := .seq vs.toArray } (.lst (ns.map V.int))) else none := fun _ => rfl
    refine core (fun b => if b = a then some (.frz { cls := .type "list", data := .seq vs.toArray } (.lst (ns.map V.int))) else none) (fun b => ?_) (.inl (.inr ⟨{ cls := .type "list", data := .seq vs.toArray }, if_pos rfl⟩)) (fun b u z => ?_) (fun b z => ?_) fun _ => hk
    · by_cases hb : b = a
      · exact .inr ⟨_, _, if_pos hb⟩
      · exact .inl (if_neg hb)
    · by_cases hb : b = a
      · cases (if_pos hb).symm.trans z
        subst hb
        exact ⟨ha, by rw [List.length_map]; exact hl, vs, _, rv, ha⟩
      · cases (if_neg hb).symm.trans z
    · by_cases hb : b = a
      · exact hb
      · exact absurd (if_neg hb) z
theorem walk_ofG {l : PySem.W.OpenLaw} {n k : Nat} {q : Program} {loose : List Str} {XP : (Str → Option Value) → Heap → Prop} {YP : World → Heap → Prop} {d : DefRec} {x : Str}
    (hn : l.most = some n) (hn2 : n ≤ sizeLine) (hdf : d.params.defaults = []) (hr : Room k callerA)
    (F : ∀ (w : World) (mg : Str → Option Value) (h : Heap), YP w h → h.Ns mainGlobals mg →
      ∃ (K : PySem.W.Frag) (sp : Sp), K.In h ∧ (∀ (H : Hp) (a : Addr) (ns : List Int), ns.length ≤ n → Only H → SqL K H a (ns.map V.int) → sp [.ref a] H (fun v _ => v = .bl true) fun _ _ _ => False) ∧
        ∀ base : Heap, K.In base → base.Ns mainGlobals mg → DG l.prog w K mg base d.name k [x] sp) :
    PySem.W.WalkO q loose XP YP l.row.toRowW d [] (fun f vs => PySem.call f vs) := by
  refine Att.attach_call hn hdf fun w s₀ s₁ mg mb fa o pm cd doc a vs ns G Y ho hd hcd hmg hobj hints hlen hg => ?_
  obtain ⟨K, sp, KX, hsp, hF⟩ := F w mg _ Y G.T.g
  exact law_callG KX G.T.g G.T.b G.T.builtins G.T.nolimit hg hmg hobj hints (Nat.le_trans hlen hn2) hr hF fun H hO hS => hsp H a ns hlen hO hS
end W47
namespace W47
open PySem PySem.Spec PyProof.Rows L2
/-! ### the head: what is read of the heap behind the top -/
def dOf (p : Str × Nat) : He.DefD := ⟨(p.1, none), p.1, p.1, defArgs (top p.2), defBody (top p.2), defScope (top p.2), [], []⟩
def mOf (m q : Str) (j : Nat) : He.DefD := ⟨("Kind", some m), m, q, defArgs (kst j), defBody (kst j), defScope (kst j), [], []⟩
def hfn : List He.DefD := defsL.map dOf ++ [mOf "__init__" "Kind.__init__" 0, mOf "name" "Kind.name" 1, mOf "size" "Kind.size" 2, mOf "steps" "Kind.steps" 3, mOf "start" "Kind.start" 4]
def hfa : List He.Fa := defsL.map (fun p => He.Fa.glo p.1) ++ ([.glo "Kind", .glo "BOUNDS", .cls "Kind", .noat "Kind" "_name", .noat "Kind" "_size", .meth "Kind" "name", .meth "Kind" "size", .meth "Kind" "steps", .meth "Kind" "start", .mkr "Kind", .int "MOST_CROSSINGS" 60] : List He.Fa) ++
  ((["isinstance", "int", "bool", "str", "list", "tuple", "len", "range", "enumerate", "abs", "sorted", "sum", "max", "min", "repr"] : List Str).map He.Fa.free)
def tupAt (K : PySem.W.Frag) (key : Str) (lo hi : Int) : Bool := match PySem.W.nsIn K (He.ga K "BOUNDS") key with
  | some (some (.ref t)) => (match K.lookup t with
    | some ⟨.type c, _, .seq its _, _⟩ => decide (c = "tuple") && (decide (its.size ≤ sizeLine) && He.relAll [.int lo, .int hi] its.toList)
    | _ => false)
  | _ => false
def hex (K : PySem.W.Frag) : Bool := (tupAt K "plain" 1 7 && (tupAt K "mirror" 1 5 && tupAt K "ring" 2 5)) &&
  (He.eqO (PySem.W.findIn K (.ref (He.ga K "Kind")) "__class__") (some (some (.builtin "object.__class__"))) && (He.eqO (PySem.W.specialIn K (.builtin "object.__class__") "__get__") (some (some (.builtin "getset_descriptor.__get__"))) &&
    (decide (PySem.W.takesIn K (.builtin "object.__class__") = some true) && (decide (PySem.W.mroIn K (He.ga K "Kind") (.type "object") = some true) && decide (PySem.W.kitOne K (.ref (He.ga K "Kind")) (.ref (He.ga K "Kind")) = some true)))))
def hts : List He.Tab := [(fun K => He.ga K "BOUNDS", ["plain", "mirror", "ring"])]
abbrev R : PySem.W.OpenRow := PySem.W.OpenLaw.row PySem.Challenge.rw_seamlayers_k47_whole_climbs
abbrev hk : PySem.W.Hook := He.hookX 4 hfa hfn hts [] hex
def ob (s : PySem.W.SharedT) : He.AlX := He.obsX 4 hfa hfn hts [] hex (HandSHeadRun.getT s)
theorem ob_eq (s : PySem.W.SharedT) : ob s = hk.obs s.abs := He.obsX_eq (HandSHeadRun.getT_eq s)
def hnames : List PySem.Str := (["__name__", "SeamError", "InvalidKind", "InvalidOrder", "InvalidNumber", "BOUNDS", "MOST_CROSSINGS", "is_whole", "is_between", "check_number", "Kind", "check_kind", "is_crossed", "by_step", "falls_of", "crossings_of", "crossings_between", "is_order_list", "is_let_order", "check_order", "least_row_of", "made_by", "check_two_orders", "lesser", "is_below", "is_beneath", "unlike_sorted", "nexts_below", "climb", "is_climb"] : List PySem.Str) ++ (["_law_hash", "_law_random", "_law_cell", "_law_generator", "_law_kind", "_law_many", "_law_start", "_law_step", "_law_crossed", "_law_made", "_law_row", "_law_least", "_law_greedy", "_law_order", "_law_order_here", "_law_is_climb", "_law_nexts", "_law_bent", "_law_right"] : List PySem.Str)
theorem run (w : World) : HandSHeadRun.RunEq R (PySem.W.view R.prog [55]) hk ob 8000 hnames w := by
  refine PySem.W.byRow2 "special-get-raises" (P := fun w => HandSHeadRun.RunEq R (PySem.W.view R.prog [55]) hk ob 8000 hnames w) (fun w => ?_) (fun w => ?_) w
  · intro os
    kernel_rfl
  · intro os
    kernel_rfl
end W47
namespace W47
open PySem PySem.Spec PyProof.Rows L2
section
variable {w : World} {h : Heap} {K : PySem.W.Frag} {mg : Str → Option Value}
theorem tupAt_ok {key : Str} {lo hi : Int} (c : tupAt K key lo hi = true) : ∃ t, PySem.W.nsIn K (He.ga K "BOUNDS") key = some (some (.ref t)) ∧ ∀ H, SqT K H t [.int lo, .int hi] := by
  unfold tupAt at c
  cases e : PySem.W.nsIn K (He.ga K "BOUNDS") key with
  | none => rw [e] at c; cases c
  | some r =>
    rw [e] at c
    cases r with
    | none => cases c
    | some u =>
      cases u with
      | ref t =>
        have c2 : (match K.lookup t with
          | some ⟨.type c, _, .seq its _, _⟩ => decide (c = "tuple") && (decide (its.size ≤ sizeLine) && He.relAll [.int lo, .int hi] its.toList)
          | _ => false) = true := c
        refine ⟨t, rfl, fun H => ?_⟩
        cases q : K.lookup t with
        | none => rw [q] at c2; cases c2
        | some o =>
          obtain ⟨oc, od, dt, osl⟩ := o
          rw [q] at c2
          cases oc with
          | type c =>
            cases dt with
            | seq its n =>
              obtain ⟨h1, h2⟩ := He.ba (show (decide (c = "tuple") && (decide (its.size ≤ sizeLine) && He.relAll [.int lo, .int hi] its.toList)) = true from c2)
              obtain ⟨h3, h4⟩ := He.ba h2
              exact .inr ⟨_, its, n, q, congrArg Value.type (of_decide_eq_true h1), rfl, of_decide_eq_true h3, He.relAll_ok h4⟩
            | _ => cases c2
          | _ => cases dt <;> cases c2
      | _ => cases c
theorem law_facts {P : Program} {base : Heap} (X : K.In h) (G : h.Ns mainGlobals mg) (c : He.SaysX hfa hfn hts [] hex w h K) : DG P w K mg base "law" 9 ["_law_script"] (spLaw K) := by
  have cd := c.t.d
  have glo : ∀ {x : Str}, He.Fa.glo x ∈ hfa → mg x = some (.ref (He.ga K x)) := fun {x} hx => He.glo_ok X G (He.SaysD.facts cd hx)
  have inA : ∀ {f : He.Fa}, f ∈ ([.glo "Kind", .glo "BOUNDS", .cls "Kind", .noat "Kind" "_name", .noat "Kind" "_size", .meth "Kind" "name", .meth "Kind" "size", .meth "Kind" "steps", .meth "Kind" "start", .mkr "Kind", .int "MOST_CROSSINGS" 60] : List He.Fa) → f ∈ hfa := fun {f} hf => List.mem_append_left _ (List.mem_append_right _ hf)
  have free : ∀ {x : Str}, x ∈ (["isinstance", "int", "bool", "str", "list", "tuple", "len", "range", "enumerate", "abs", "sorted", "sum", "max", "min", "repr"] : List Str) → mg x = none := fun {x} hx => He.free_ok X G (He.SaysD.facts cd (List.mem_append_right _ (List.mem_map_of_mem hx)))
  have F : ∀ (i : Nat) (p : Str × Nat), defsL[i]? = some p → FnP K mg p.1 (top p.2) := fun i p hp => by
    have hm : p ∈ defsL := List.mem_of_getElem? hp
    obtain ⟨fd, hf⟩ := He.SaysD.defs cd (d := dOf p) (List.mem_append_left _ (List.mem_map_of_mem hm))
    exact ⟨_, fd, glo (List.mem_append_left _ (List.mem_append_left _ (List.mem_map_of_mem (f := fun p : Str × Nat => He.Fa.glo p.1) hm))), hf⟩
  have ex := c.more
  unfold hex at ex
  obtain ⟨x1, x2⟩ := He.ba ex
  obtain ⟨b1, b2⟩ := He.ba x1
  obtain ⟨b3, b4⟩ := He.ba b2
  obtain ⟨i1, i2⟩ := He.ba x2
  obtain ⟨i3, i4⟩ := He.ba i2
  obtain ⟨i5, i6⟩ := He.ba i4
  obtain ⟨i7, i8⟩ := He.ba i6
  have T : TK K mg (He.ga K "Kind") := ⟨⟨He.cls_ok (He.SaysD.facts cd (inA (.tail _ (.tail _ (.head _))))), He.eqO_ok i1, He.eqO_ok i3, of_decide_eq_true i5, of_decide_eq_true i7, of_decide_eq_true i8⟩,
    He.noat_ok (He.SaysD.facts cd (inA (.tail _ (.tail _ (.tail _ (.head _)))))), He.noat_ok (He.SaysD.facts cd (inA (.tail _ (.tail _ (.tail _ (.tail _ (.head _))))))), glo (inA (.head _))⟩
  have B : Bl mg := by
    constructor <;> exact free (by simp only [List.mem_cons, true_or, or_true])
  have meth : ∀ {m : Str}, He.Fa.meth "Kind" m ∈ hfa → Meth K (He.ga K "Kind") m (He.ma K (He.ga K "Kind") m) := fun {m} hm => He.meth_ok (He.SaysD.facts cd hm)
  have md : ∀ {d : He.DefD}, d ∈ [mOf "__init__" "Kind.__init__" 0, mOf "name" "Kind.name" 1, mOf "size" "Kind.size" 2, mOf "steps" "Kind.steps" 3, mOf "start" "Kind.start" 4] → ∃ fd, FunD K d.name d.qual d.params d.body d.scope (d.dvs K) (d.kws K) (He.fAd K d.at_) fd := fun {d} hd => He.SaysD.defs cd (List.mem_append_right _ hd)
  have mt : ∀ {m q : Str} {j : Nat}, He.Fa.meth "Kind" m ∈ hfa → mOf m q j ∈ [mOf "__init__" "Kind.__init__" 0, mOf "name" "Kind.name" 1, mOf "size" "Kind.size" 2, mOf "steps" "Kind.steps" 3, mOf "start" "Kind.start" 4] → MtP K (He.ga K "Kind") m q (kst j) := fun {m q j} h1 h2 => by
    obtain ⟨fd, hf⟩ := md h2
    exact ⟨_, fd, meth h1, hf⟩
  have MK : MkP K (He.ga K "Kind") (kst 0) := by
    obtain ⟨fd, hf⟩ := md (d := mOf "__init__" "Kind.__init__" 0) (.head _)
    exact ⟨_, fd, He.mkr_ok (He.SaysD.facts cd (inA (.tail _ (.tail _ (.tail _ (.tail _ (.tail _ (.tail _ (.tail _ (.tail _ (.tail _ (.head _)))))))))))), hf⟩
  have TBo : TB K w mg := by
    obtain ⟨es, n, kd⟩ := He.SaysT.tab c.t 0
    refine ⟨He.ga K "BOUNDS", es, n, glo (inA (.tail _ (.head _))), kd, fun m => ?_⟩
    cases m with
    | plain =>
      obtain ⟨t, h1, h2⟩ := tupAt_ok b1
      refine ⟨t, 1, 7, h1, h2, fun k hk ok hb => ?_⟩
      have hn := (ok_n ok).1
      rcases hb with z | ⟨_, z⟩ <;> omega
    | mirror =>
      obtain ⟨t, h1, h2⟩ := tupAt_ok b3
      refine ⟨t, 1, 5, h1, h2, fun k hk ok hb => ?_⟩
      have hn := (ok_n ok).1
      rcases hb with z | ⟨z, _⟩
      · omega
      · rw [hk] at z; cases z
    | ring =>
      obtain ⟨t, h1, h2⟩ := tupAt_ok b4
      refine ⟨t, 2, 5, h1, h2, fun k hk ok hb => ?_⟩
      have hn := (ok_n ok).2 hk
      rcases hb with z | ⟨z, _⟩
      · omega
      · rw [hk] at z; cases z
  exact law_ok F (mt (inA (.tail _ (.tail _ (.tail _ (.tail _ (.tail _ (.head _))))))) (.tail _ (.head _))) (mt (inA (.tail _ (.tail _ (.tail _ (.tail _ (.tail _ (.tail _ (.head _)))))))) (.tail _ (.tail _ (.head _)))) (mt (inA (.tail _ (.tail _ (.tail _ (.tail _ (.tail _ (.tail _ (.tail _ (.head _))))))))) (.tail _ (.tail _ (.tail _ (.head _))))) (mt (inA (.tail _ (.tail _ (.tail _ (.tail _ (.tail _ (.tail _ (.tail _ (.tail _ (.head _)))))))))) (.tail _ (.tail _ (.tail _ (.tail _ (.head _)))))) MK T B TBo
    (He.int_ok X G (He.SaysD.fact cd 52 (f := .int "MOST_CROSSINGS" 60) rfl))
end
end W47
open PySem PySem.W PySem.Calls PyProof.Rows
theorem PySem.Challenge.cw_seamlayers_k47_whole_climbs_holds : PySem.Challenge.rw_seamlayers_k47_whole_climbs.Holds := by
  w_on; o_law
  refine HandSHeadRun.head_any (r := OpenLaw.row PySem.Challenge.rw_seamlayers_k47_whole_climbs) (q := view (OpenLaw.row PySem.Challenge.rw_seamlayers_k47_whole_climbs).prog [55]) (H := W47.hk) (ob := W47.ob) (M := 8000) (loose := W47.hnames) (d := HandSHeadRun.topDef (OpenLaw.row PySem.Challenge.rw_seamlayers_k47_whole_climbs).prog 55) (kwd := []) W47.ob_eq
    (by kernel_rfl) (fun s => by kernel_rfl) W47.run (by kernel_rfl) (by kernel_rfl) (by kernel_rfl) (by rfl) (by first | assumption | decide +kernel) (by decide +kernel) ⟨rfl, rfl, rfl, rfl, rfl, by decide +kernel⟩ ?hw ?hc
  case hw => w_witness2
  case hc =>
    refine W47.walk_ofG (l := PySem.Challenge.rw_seamlayers_k47_whole_climbs) (n := 63) (k := 9) (x := "_law_script") rfl (by decide) (by kernel_rfl) ⟨rfl, by decide, by decide⟩ ?F
    intro w mg h Y G
    obtain ⟨K, KX, c⟩ := Y
    refine ⟨K, W47.spLaw K, KX, fun H a ns hl _ hS => ⟨a, ns, rfl, hS, fun _ => rfl⟩, fun base _ _ => ?_⟩
    have e : (HandSHeadRun.topDef (OpenLaw.row PySem.Challenge.rw_seamlayers_k47_whole_climbs).prog 55).name = ("law" : PySem.Str) := by kernel_rfl
    rw [e]
    exact W47.law_facts KX G c
