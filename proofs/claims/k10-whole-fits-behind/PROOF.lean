import PyProof.Rows.All
import Wide.All
import OpenK.AllK
import Wide.FinOn
import KE.KStateDown
import Lean
import HandS.ForMost
import HandS.ForExc
import HandS.Evl
import HandS.IsInst
import HandS.Wide
import HandS.Defaults
import HandS.Conv
import HandS.Head0
import HandS.Head1
import HandS.Head2
import HandS.HeadEnd
import HandS.HeadHook1
import HandS.HeadHook2
import HandS.Star
import HandS.Deep
import HandS.Style
import PySem.Challenge.RW_murmurline_k10_whole_fits_behind
set_option Elab.async false
set_option linter.all false
set_option maxRecDepth 100000
set_option maxHeartbeats 4000000

namespace Mu
open PySem L2 Evl

/-! ### footprints: G is what is known for sure and never changed, H the heap; foreign things of H stay out of G -/
structure Gr (G H G2 H2 : Hp) : Prop where
  g : Ex G G2
  h : Ex H H2
  i : Ex G2 H2
  n : ∀ a o, H a = some o → G a = none → G2 a = none
theorem Gr.refl {G H : Hp} (e : Ex G H) : Gr G H G H := ⟨Ex.refl _, Ex.refl _, e, fun _ _ _ n => n⟩
theorem Gr.trans {G H G2 H2 G3 H3 : Hp} (a : Gr G H G2 H2) (b : Gr G2 H2 G3 H3) : Gr G H G3 H3 :=
  ⟨a.g.trans b.g, a.h.trans b.h, b.i, fun c o q z => b.n c o (a.h c o q) (a.n c o q z)⟩
theorem Gr.more {G H G2 H2 H3 : Hp} (a : Gr G H G2 H2) (e : Ex H2 H3) : Gr G H G2 H3 := ⟨a.g, a.h.trans e, a.i.trans e, a.n⟩
/-- a new object, within the footprint | outside it -/
theorem Gr.new {G H : Hp} {p : Addr} {o : HO} (e : Ex G H) (hp : H p = none) : Gr G H (upd G p o) (upd H p o) where
  g := Ex.new (fresh_back e hp)
  h := Ex.new hp
  i := fun a u z => by
    by_cases q : a = p
    · subst q
      rw [upd_same] at z ⊢
      exact z
    · rw [upd_ne q] at z ⊢
      exact e a u z
  n := fun a u z y => by rw [upd_ne (ne_of_none z hp)]; exact y
theorem Gr.out {G H : Hp} {p : Addr} {o : HO} (e : Ex G H) (hp : H p = none) : Gr G H G (upd H p o) := (Gr.refl e).more (Ex.new hp)
/-- two parts of one heap, together -/
def un (A B : Hp) : Hp := fun a => match A a with
  | some o => some o
  | none => B a
theorem un_l {A B : Hp} {a : Addr} {o : HO} (h : A a = some o) : un A B a = some o := by unfold un; rw [h]
theorem un_r {A B : Hp} {a : Addr} (h : A a = none) : un A B a = B a := by unfold un; rw [h]
theorem ex_un_l {A B : Hp} : Ex A (un A B) := fun _ _ h => un_l h
theorem ex_un_r {A B H : Hp} (ha : Ex A H) (hb : Ex B H) : Ex B (un A B) := fun a o h => by
  cases q : A a with
  | none => rw [un_r q]; exact h
  | some u =>
    have h1 := ha a u q
    have h2 := hb a o h
    rw [h1] at h2
    rw [un_l q]
    exact h2
theorem un_in {A B H : Hp} (ha : Ex A H) (hb : Ex B H) : Ex (un A B) H := fun a o h => by
  cases q : A a with
  | none => rw [un_r q] at h; exact hb a o h
  | some u => rw [un_l q] at h; exact ha a o (q.trans h)
theorem Gr.up {G G' H G2 H2 : Hp} (e : Ex G G') (e' : Ex G' H) (a : Gr G H G2 H2) : Gr G' H (un G' G2) H2 where
  g := ex_un_l
  h := a.h
  i := un_in (e'.trans a.h) a.i
  n := fun c o q z => by rw [un_r z]; exact a.n c o q (fresh_back e z)
theorem Gr.upr {G G' H G2 H2 : Hp} (e' : Ex G' H) (a : Gr G H G2 H2) : Ex G2 (un G' G2) := ex_un_r (e'.trans a.h) a.i

/-! ### what a value stands for -/
structure Rp where
  p : V → Hp → Prop
  mono : ∀ {v : V} {H H' : Hp}, Ex H H' → p v H → p v H'
abbrev RA (H : Hp) : List V → List Rp → Prop := Paired fun v r => r.p v H
theorem RA.mono {H H' : Hp} (e : Ex H H') : ∀ {vs : List V} {rs : List Rp}, RA H vs rs → RA H' vs rs
  | _, _, .nil => .nil
  | _, _, .cons (b := r) h t => .cons (r.mono e h) (RA.mono e t)
theorem RA.len {H : Hp} {vs : List V} {rs : List Rp} (h : RA H vs rs) : vs.length = rs.length := Paired.length h
theorem RA.get {H : Hp} : ∀ {vs : List V} {rs : List Rp} {i : Nat} {r : Rp}, RA H vs rs → rs[i]? = some r → ∃ v, vs[i]? = some v ∧ r.p v H
  | _, _, _, _, .nil, e => by simp at e
  | _, _, 0, _, .cons h t, e => by simp at e; subst e; exact ⟨_, rfl, h⟩
  | _, _, i + 1, r, .cons h t, e => by
    obtain ⟨v, h1, h2⟩ := RA.get (i := i) (r := r) t (by simpa using e)
    exact ⟨v, by simpa using h1, h2⟩
theorem RA.getV {H : Hp} : ∀ {vs : List V} {rs : List Rp} {i : Nat} {v : V}, RA H vs rs → vs[i]? = some v → ∃ r, rs[i]? = some r ∧ r.p v H
  | _, _, _, _, .nil, e => by simp at e
  | _, _, 0, _, .cons h t, e => by simp at e; subst e; exact ⟨_, rfl, h⟩
  | _, _, i + 1, v, .cons h t, e => by
    obtain ⟨r, h1, h2⟩ := RA.getV (i := i) (v := v) t (by simpa using e)
    exact ⟨r, by simpa using h1, h2⟩
theorem RA.snoc {H : Hp} {vs : List V} {rs : List Rp} {v : V} {r : Rp} (h : RA H vs rs) (q : r.p v H) : RA H (vs ++ [v]) (rs ++ [r]) := Paired.snoc h q
theorem RA.append {H : Hp} : ∀ {vs ws : List V} {rs ss : List Rp}, RA H vs rs → RA H ws ss → RA H (vs ++ ws) (rs ++ ss)
  | _, _, _, _, .nil, q => q
  | _, _, _, _, .cons h t, q => .cons h (RA.append t q)
theorem RA.set {H : Hp} {v : V} {r : Rp} (q : r.p v H) : ∀ {vs : List V} {rs : List Rp} (i : Nat), RA H vs rs → RA H (vs.set i v) (rs.set i r)
  | _, _, _, .nil => .nil
  | _, _, 0, .cons _ t => .cons q t
  | _, _, i + 1, .cons h t => .cons h (RA.set q i t)

def rV (v : V) : Rp := ⟨fun x _ => x = v, fun _ h => h⟩
abbrev rI (i : Int) : Rp := rV (.int i)
abbrev rB (b : Bool) : Rp := rV (.bl b)
abbrev rS (s : Str) : Rp := rV (.str s)
def rL (_K : PySem.W.Frag) (rs : List Rp) : Rp := ⟨fun v H => ∃ a vs, v = .ref a ∧ H a = some (.lst vs) ∧ RA H vs rs, fun e ⟨a, vs, h1, h2, h3⟩ => ⟨a, vs, h1, e _ _ h2, h3.mono e⟩⟩
section
variable (K : PySem.W.Frag)
/-- a list that may only be read (the script) -/
def rLs (rs : List Rp) : Rp := ⟨fun v H => ∃ a vs, v = .ref a ∧ SqL K H a vs ∧ RA H vs rs, fun e ⟨a, vs, h1, h2, h3⟩ => ⟨a, vs, h1, ex_l e h2, h3.mono e⟩⟩
def rT (rs : List Rp) : Rp := ⟨fun v H => ∃ a vs, v = .ref a ∧ SqT K H a vs ∧ RA H vs rs, fun e ⟨a, vs, h1, h2, h3⟩ => ⟨a, vs, h1, ex_t e h2, h3.mono e⟩⟩
/-- ints -/
abbrev nI (n : Nat) : Rp := rI (n : Int)
def rLn (l : List Nat) : Rp := rL K (l.map nI)
def rTn (l : List Nat) : Rp := rT K (l.map nI)
def rLL (l : List (List Nat)) : Rp := rL K (l.map (rLn K))
end
theorem ra_nats {H : Hp} : ∀ {l : List Nat}, RA H (l.map fun (n : Nat) => V.int (n : Int)) (l.map nI)
  | [] => .nil
  | _ :: r => .cons rfl (ra_nats (l := r))
theorem ra_vals {H : Hp} : ∀ {l : List V}, RA H l (l.map rV)
  | [] => .nil
  | _ :: r => .cons rfl (ra_vals (l := r))
theorem ra_nats_eq {H : Hp} : ∀ {l : List Nat} {vs : List V}, RA H vs (l.map nI) → vs = l.map fun (n : Nat) => V.int (n : Int)
  | [], _, .nil => rfl
  | n :: r, _, .cons h t => by
    have e1 := ra_nats_eq (l := r) t
    have e2 : _ = V.int (n : Int) := h
    rw [e1, e2]; rfl

/-! ### what a reading gives -/
def EvD (te : TE) (σ : L2.St) (G : Hp) (r : Rp) : Prop := ∀ H, Ex G H → ∀ Q : VK, (∀ v G2 H2, Gr G H G2 H2 → r.p v G2 → Q v H2) → te σ H Q
/-- a new list, not (yet) in the footprint -/
def EvN (te : TE) (σ : L2.St) (G : Hp) (rs : List Rp) : Prop := ∀ H, Ex G H → ∀ Q : VK, (∀ p vs G2 H2, Gr G H G2 H2 → H p = none → G2 p = none → H2 p = some (.lst vs) → RA G2 vs rs → Q (.ref p) H2) → te σ H Q
def EvAD (ta : TA) (σ : L2.St) (G : Hp) (rs : List Rp) : Prop := ∀ H, Ex G H → ∀ Q : List V → Hp → Prop, (∀ vs G2 H2, Gr G H G2 H2 → RA G2 vs rs → Q vs H2) → ta σ H Q
section
variable {σ : L2.St} {G G' : Hp} {te ta tb : TE} {r r1 r2 : Rp} {v w x y z : V} {K : PySem.W.Frag}
theorem EvD.mono (e : Ex G G') (h : EvD te σ G r) : EvD te σ G' r := fun H e' Q q =>
  h H (e.trans e') Q fun v G2 H2 g hp => q v (un G' G2) H2 (g.up e e') (r.mono (g.upr e') hp)
theorem EvN.mono {rs : List Rp} (e : Ex G G') (h : EvN te σ G rs) : EvN te σ G' rs := fun H e' Q q =>
  h H (e.trans e') Q fun p vs G2 H2 g hp gp h2 ra => q p vs (un G' G2) H2 (g.up e e') hp (by rw [un_r (fresh_back e' hp)]; exact gp) h2 (ra.mono (g.upr e'))
theorem EvAD.mono {ta : TA} {rs : List Rp} (e : Ex G G') (h : EvAD ta σ G rs) : EvAD ta σ G' rs := fun H e' Q q =>
  h H (e.trans e') Q fun vs G2 H2 g hp => q vs (un G' G2) H2 (g.up e e') (hp.mono (g.upr e'))
theorem Ev.d (h : Ev te σ G v) : EvD te σ G (rV v) := fun H e Q q => h H e Q fun H2 e2 => q v G H2 ((Gr.refl e).more e2) rfl
theorem EvD.ev (h : EvD te σ G (rV v)) : Ev te σ G v := fun H e Q q => h H e Q fun v' G2 H2 g (hv : v' = v) => by subst hv; exact q H2 g.h
theorem ed_var {i : Nat} (h : σ[i]? = some (some v)) (hr : r.p v G) : EvD (tVar i) σ G r := fun H e Q q => ⟨v, h, q v G H (Gr.refl e) hr⟩
theorem EvN.d {rs : List Rp} (h : EvN te σ G rs) : EvD te σ G (rL K rs) := fun H e Q q => h H e Q fun p vs G2 H2 g hp gp h2 ra => by
  have e2 : Ex (upd G2 p (.lst vs)) H2 := fun a u z => by
    by_cases c : a = p
    · subst c
      rw [upd_same] at z
      rw [h2]; exact z
    · rw [upd_ne c] at z
      exact g.i a u z
  refine q (.ref p) (upd G2 p (.lst vs)) H2 ⟨g.g.trans (Ex.new gp), g.h, e2, fun a u z y => ?_⟩ ⟨p, vs, rfl, upd_same, ra.mono (Ex.new gp)⟩
  rw [upd_ne (ne_of_none z hp)]
  exact g.n a u z y
/-! arguments -/
theorem ead_nil : EvAD tNil σ G [] := fun H e Q q => q [] G H (Gr.refl e) .nil
theorem ead_cons {tr : TA} {rs : List Rp} (h : EvD te σ G r) (hr : EvAD tr σ G rs) : EvAD (tCons te tr) σ G (r :: rs) := fun H e Q q =>
  h H e _ fun v G2 H2 g hv => (hr.mono g.g) H2 g.i _ fun vs G3 H3 g3 hvs => q (v :: vs) G3 H3 (g.trans g3) (.cons (r.mono g3.g hv) hvs)
/-! calls -/
def SpD (sp : Sp) (vs : List V) (G : Hp) (r : Rp) : Prop := ∀ H, Ex G H → ∀ Q : VK, (∀ v G2 H2, Gr G H G2 H2 → r.p v G2 → Q v H2) → ∀ E : XK, sp vs H Q E
def SpN (sp : Sp) (vs : List V) (G : Hp) (rs : List Rp) : Prop := ∀ H, Ex G H → ∀ Q : VK, (∀ p vs G2 H2, Gr G H G2 H2 → H p = none → G2 p = none → H2 p = some (.lst vs) → RA G2 vs rs → Q (.ref p) H2) → ∀ E : XK, sp vs H Q E
theorem ed_call {sp : Sp} {E : XK} {ta : TA} {rs : List Rp} (h : EvAD ta σ G rs) (hs : ∀ vs G2, Ex G G2 → RA G2 vs rs → SpD sp vs G2 r) : EvD (tCall sp [] E ta) σ G r := fun H e Q q =>
  h H e _ fun vs G2 H2 g hv => by
    rw [List.append_nil]
    exact hs vs G2 g.g hv H2 g.i Q (fun v G3 H3 g3 hv3 => q v G3 H3 (g.trans g3) hv3) E
theorem en_call {sp : Sp} {E : XK} {ta : TA} {rs ss : List Rp} (h : EvAD ta σ G rs) (hs : ∀ vs G2, Ex G G2 → RA G2 vs rs → SpN sp vs G2 ss) : EvN (tCall sp [] E ta) σ G ss := fun H e Q q =>
  h H e _ fun vs G2 H2 g hv => by
    rw [List.append_nil]
    exact hs vs G2 g.g hv H2 g.i Q (fun p ws G3 H3 g3 hp gp h3 ra => q p ws G3 H3 (g.trans g3) (fresh_back g.h hp) gp h3 ra) E
theorem ed_callB {rr : List V → Hp → VK → Prop} {ta : TA} {rs : List Rp} (h : EvAD ta σ G rs) (hs : ∀ vs G2 H, Ex G G2 → Ex G2 H → RA G2 vs rs → ∀ Q : VK, (∀ v G3 H3, Gr G2 H G3 H3 → r.p v G3 → Q v H3) → rr vs H Q) : EvD (tCB rr ta) σ G r := fun H e Q q =>
  h H e _ fun vs G2 H2 g hv => hs vs G2 H2 g.g g.i hv Q fun v G3 H3 g3 hv3 => q v G3 H3 (g.trans g3) hv3
theorem en_callB {rr : List V → Hp → VK → Prop} {ta : TA} {rs ss : List Rp} (h : EvAD ta σ G rs) (hs : ∀ vs G2 H, Ex G G2 → Ex G2 H → RA G2 vs rs → ∀ Q : VK, (∀ p ws G3 H3, Gr G2 H G3 H3 → H p = none → G3 p = none → H3 p = some (.lst ws) → RA G3 ws ss → Q (.ref p) H3) → rr vs H Q) : EvN (tCB rr ta) σ G ss := fun H e Q q =>
  h H e _ fun vs G2 H2 g hv => hs vs G2 H2 g.g g.i hv Q fun p ws G3 H3 g3 hp gp h3 ra => q p ws G3 H3 (g.trans g3) (fresh_back g.h hp) gp h3 ra
/-- operators -/
theorem ed_op {rr : R2} (ha : EvD ta σ G r1) (hb : EvD tb σ G r2) (hs : ∀ x y G2 H, Ex G G2 → Ex G2 H → r1.p x G2 → r2.p y G2 → ∀ Q : VK, (∀ v G3 H3, Gr G2 H G3 H3 → r.p v G3 → Q v H3) → rr x y H Q) : EvD (tOp rr ta tb) σ G r := fun H e Q q =>
  ha H e _ fun x G2 H2 g hx => (hb.mono g.g) H2 g.i _ fun y G3 H3 g3 hy => hs x y G3 H3 (g.g.trans g3.g) g3.i (r1.mono g3.g hx) hy Q fun v G4 H4 g4 hv => q v G4 H4 ((g.trans g3).trans g4) hv
theorem en_op {rr : R2} {ss : List Rp} (ha : EvD ta σ G r1) (hb : EvD tb σ G r2) (hs : ∀ x y G2 H, Ex G G2 → Ex G2 H → r1.p x G2 → r2.p y G2 → ∀ Q : VK, (∀ p ws G3 H3, Gr G2 H G3 H3 → H p = none → G3 p = none → H3 p = some (.lst ws) → RA G3 ws ss → Q (.ref p) H3) → rr x y H Q) : EvN (tOp rr ta tb) σ G ss := fun H e Q q =>
  ha H e _ fun x G2 H2 g hx => (hb.mono g.g) H2 g.i _ fun y G3 H3 g3 hy => hs x y G3 H3 (g.g.trans g3.g) g3.i (r1.mono g3.g hx) hy Q fun p ws G4 H4 g4 hp gp h4 ra => q p ws G4 H4 ((g.trans g3).trans g4) (fresh_back (g.h.trans g3.h) hp) gp h4 ra
/-- an operation whose answer is a plain value and that leaves the heap -/
theorem ev_op2 {rr : R2} (ha : EvD ta σ G r1) (hb : EvD tb σ G r2) (hs : ∀ x y H, r1.p x H → r2.p y H → ∀ Q : VK, Q z H → rr x y H Q) : Ev (tOp rr ta tb) σ G z := EvD.ev (ed_op ha hb fun x y G2 H _ e hx hy Q q => hs x y H (r1.mono e hx) (r2.mono e hy) Q (q z G2 H (Gr.refl e) rfl))
/-! items -/
theorem ed_ixT {rs : List Rp} {i : Nat} (ha : EvD ta σ G (rT K rs)) (hb : Ev tb σ G (.int (i : Int))) (hi : rs[i]? = some r) : EvD (tOp (rIxT K) ta tb) σ G r :=
  ed_op ha (Ev.d hb) fun x y G2 H _ e hx hy Q q => by
    obtain ⟨a, vs, rfl, h1, h2⟩ := hx
    obtain ⟨v, h3, h4⟩ := h2.get hi
    have hy' : y = .int (i : Int) := hy
    subst hy'
    exact ⟨a, vs, (i : Int), v, rfl, rfl, ex_t e h1, atI_nat h3, q v G2 H (Gr.refl e) h4⟩
theorem ed_ixL {rs : List Rp} {i : Nat} (ha : EvD ta σ G (rL K rs)) (hb : Ev tb σ G (.int (i : Int))) (hi : rs[i]? = some r) : EvD (tOp (rIxL K) ta tb) σ G r :=
  ed_op ha (Ev.d hb) fun x y G2 H _ e hx hy Q q => by
    obtain ⟨a, vs, rfl, h1, h2⟩ := hx
    obtain ⟨v, h3, h4⟩ := h2.get hi
    have hy' : y = .int (i : Int) := hy
    subst hy'
    exact ⟨a, vs, (i : Int), v, rfl, rfl, sq_of (e _ _ h1), atI_nat h3, q v G2 H (Gr.refl e) h4⟩
/-! len, list, tuple -/
def rTupO (K : PySem.W.Frag) : List V → Hp → VK → Prop := fun xs H Q => ∃ p ys, xs = [.ref p] ∧ ((SqL K H p ys ∧ ∀ l, H l = none → Q (.ref l) (upd H l (.tup ys))) ∨ (SqT K H p ys ∧ Q (.ref p) H))
theorem ev_lenL {rs : List Rp} {n : Nat} (h : EvD te σ G (rL K rs)) (hn : rs.length = n) : Ev (tCB (rLenS K) (tCons te tNil)) σ G (.int (n : Int)) := fun H e Q q =>
  h H e _ fun v G2 H2 g ⟨a, vs, hv, h1, h2⟩ => by
    subst hv
    refine ⟨a, vs, rfl, Or.inl (sq_of (g.i _ _ h1)), ?_⟩
    rw [h2.len, hn]
    exact q H2 g.h
theorem ev_lenT {rs : List Rp} {n : Nat} (h : EvD te σ G (rT K rs)) (hn : rs.length = n) : Ev (tCB (rLenS K) (tCons te tNil)) σ G (.int (n : Int)) := fun H e Q q =>
  h H e _ fun v G2 H2 g ⟨a, vs, hv, h1, h2⟩ => by
    subst hv
    refine ⟨a, vs, rfl, Or.inr (ex_t g.i h1), ?_⟩
    rw [h2.len, hn]
    exact q H2 g.h
theorem en_listL {rs : List Rp} (h : EvD te σ G (rL K rs)) : EvN (tCB (rListS K) (tCons te tNil)) σ G rs := fun H e Q q =>
  h H e _ fun v G2 H2 g ⟨a, vs, hv, h1, h2⟩ => by
    subst hv
    exact ⟨a, vs, rfl, Or.inl (sq_of (g.i _ _ h1)), fun l hl => q l vs G2 _ (g.more (Ex.new hl)) (fresh_back g.h hl) (fresh_back g.i hl) upd_same h2⟩
theorem en_listT {rs : List Rp} (h : EvD te σ G (rT K rs)) : EvN (tCB (rListS K) (tCons te tNil)) σ G rs := fun H e Q q =>
  h H e _ fun v G2 H2 g ⟨a, vs, hv, h1, h2⟩ => by
    subst hv
    exact ⟨a, vs, rfl, Or.inr (ex_t g.i h1), fun l hl => q l vs G2 _ (g.more (Ex.new hl)) (fresh_back g.h hl) (fresh_back g.i hl) upd_same h2⟩
theorem ed_tupL {rs : List Rp} (h : EvD te σ G (rL K rs)) : EvD (tCB (rTupO K) (tCons te tNil)) σ G (rT K rs) := fun H e Q q =>
  h H e _ fun v G2 H2 g ⟨a, vs, hv, h1, h2⟩ => by
    subst hv
    refine ⟨a, vs, rfl, Or.inl ⟨sq_of (g.i _ _ h1), fun l hl => ?_⟩⟩
    have g3 := Gr.new (o := .tup vs) g.i hl
    exact q (.ref l) _ _ (g.trans g3) ⟨l, vs, rfl, st_of upd_same, h2.mono g3.g⟩
/-! displays -/
theorem ed_tup {ta : TA} {rs : List Rp} (h : EvAD ta σ G rs) (hl : rs.length ≤ 100000) : EvD (tTup ta) σ G (rT K rs) := fun H e Q q =>
  h H e _ fun vs G2 H2 g hv => ⟨sz_of (by rw [hv.len]; exact hl), fun p hp => by
    have g3 := Gr.new (o := .tup vs) g.i hp
    exact q (.ref p) _ _ (g.trans g3) ⟨p, vs, rfl, st_of upd_same, hv.mono g3.g⟩⟩
theorem en_lst {ta : TA} {rs : List Rp} (h : EvAD ta σ G rs) (hl : rs.length ≤ 100000) : EvN (tLst ta) σ G rs := fun H e Q q =>
  h H e _ fun vs G2 H2 g hv => ⟨sz_of (by rw [hv.len]; exact hl), fun p hp => q p vs G2 _ (g.more (Ex.new hp)) (fresh_back g.h hp) (fresh_back g.i hp) upd_same hv⟩
end

/-! ### comprehensions -/
section
variable {σ : L2.St} {G : Hp} {te tl : TE} {t : TT} {K : PySem.W.Frag} {α : Type} {j : Nat} {vs : List Nat}
/-- between two turns: D the list that grows, outside the footprint -/
def Cm (G0 H0 : Hp) (Dl : Addr) (rs : List Rp) (H' : Hp) : Prop := H0 Dl = none ∧ ∃ G' ws, Gr G0 H0 G' H' ∧ G' Dl = none ∧ H' Dl = some (.lst ws) ∧ RA G' ws rs
theorem cm_turn {G0 H0 H' : Hp} {Dl : Addr} {rs : List Rp} {b : Bool} {r : Rp} {σ2 : L2.St} (hz : rs.length < 50000) (p : Cm G0 H0 Dl rs H') (ht : ∀ G1, Ex G0 G1 → Ex G1 H' → EvT t σ2 G1 b) (he : b = true → ∀ G1, Ex G0 G1 → Ex G1 H' → EvD te σ2 G1 r) :
    t σ2 H' fun b H3 => if b = true then te σ2 H3 fun y H4 => ∃ acc, H4 Dl = some (.lst acc) ∧ acc.length < sizeLine ∧ Cm G0 H0 Dl (rs ++ (if true = true then [r] else [])) (upd H4 Dl (.lst (acc ++ [y]))) else Cm G0 H0 Dl rs H3 := by
  obtain ⟨p1, G', ws, g, hG, hD, ra⟩ := p
  refine ht G' g.g g.i H' g.i _ fun H3 e3 => ?_
  cases b with
  | true =>
    show te σ2 H3 fun y H4 => _
    refine he rfl G' g.g g.i H3 (g.i.trans e3) _ fun y G4 H4 g4 hy => ⟨ws, g4.h _ _ (e3 _ _ hD), sz_lt (by rw [ra.len]; omega), p1, G4, ws ++ [y], ?_, g4.n _ _ (e3 _ _ hD) hG, upd_same, (ra.mono g4.g).snoc hy⟩
    have q := (g.more e3).trans g4
    exact ⟨q.g, Ex.mut q.h p1, Ex.mut q.i (g4.n _ _ (e3 _ _ hD) hG), q.n⟩
  | false =>
    show Cm G0 H0 Dl rs H3
    exact ⟨p1, G', ws, g.more e3, hG, e3 _ _ hD, ra⟩
theorem filter_take_succ {l : List α} {f : α → Bool} {rr : α → Rp} {i : Nat} {a : α} (h : l[i]? = some a) : ((l.take (i + 1)).filter f).map rr = ((l.take i).filter f).map rr ++ (if f a = true then [rr a] else []) := by
  rw [List.take_add_one, h, List.filter_append, List.map_append]
  congr 1
  cases q : f a <;> simp [q]
theorem cm_step {l : List α} {f : α → Bool} {rr : α → Rp} {G0 H0 H' : Hp} {Dl : Addr} {i : Nat} {a : α} {σ2 : L2.St} (h : l[i]? = some a) (hz : l.length ≤ 40000) (p : Cm G0 H0 Dl (((l.take i).filter f).map rr) H')
    (ht : ∀ G1, Ex G0 G1 → Ex G1 H' → EvT t σ2 G1 (f a)) (he : f a = true → ∀ G1, Ex G0 G1 → Ex G1 H' → EvD te σ2 G1 (rr a)) :
    t σ2 H' fun b H3 => if b = true then te σ2 H3 fun y H4 => ∃ acc, H4 Dl = some (.lst acc) ∧ acc.length < sizeLine ∧ Cm G0 H0 Dl (((l.take (i + 1)).filter f).map rr) (upd H4 Dl (.lst (acc ++ [y]))) else Cm G0 H0 Dl (((l.take (i + 1)).filter f).map rr) H3 := by
  rw [filter_take_succ h]
  have hl : (((l.take i).filter f).map rr).length < 50000 := by
    rw [List.length_map]
    have h1 := List.length_filter_le f (l.take i)
    have h2 := List.length_take_le i l
    have h3 : (l.take i).length ≤ l.length := by rw [List.length_take]; omega
    omega
  have z := cm_turn (t := t) (te := te) (r := rr a) (b := f a) hl p ht he
  cases q : f a with
  | true =>
    rw [q] at ht
    obtain ⟨p1, G', ws, g, hG, hD, ra⟩ := p
    refine ht G' g.g g.i H' g.i _ fun H3 e3 => ?_
    show te σ2 H3 fun y H4 => _
    refine he q G' g.g g.i H3 (g.i.trans e3) _ fun y G4 H4 g4 hy => ⟨ws, g4.h _ _ (e3 _ _ hD), sz_lt (by rw [ra.len]; omega), p1, G4, ws ++ [y], ?_, g4.n _ _ (e3 _ _ hD) hG, upd_same, (ra.mono g4.g).snoc hy⟩
    have q := (g.more e3).trans g4
    exact ⟨q.g, Ex.mut q.h p1, Ex.mut q.i (g4.n _ _ (e3 _ _ hD) hG), q.n⟩
  | false =>
    rw [q] at ht
    obtain ⟨p1, G', ws, g, hG, hD, ra⟩ := p
    refine ht G' g.g g.i H' g.i _ fun H3 e3 => ?_
    show Cm G0 H0 Dl (_ ++ []) H3
    rw [List.append_nil]
    exact ⟨p1, G', ws, g.more e3, hG, e3 _ _ hD, ra⟩
theorem cm_start {G0 H0 : Hp} {Dl : Addr} (e : Ex G0 H0) (h : H0 Dl = none) : Cm G0 H0 Dl [] (upd H0 Dl (.lst [])) := ⟨h, G0, [], Gr.out e h, fresh_back e h, upd_same, .nil⟩
theorem en_lcL (l : List α) (ρ : α → Rp) (f : α → Bool) (rr : α → Rp) (h : EvD tl σ G (rL K (l.map ρ))) (hz : l.length ≤ 40000) (hw : ∀ x, wipe ((wipe σ vs).set j (some x)) vs = wipe σ vs)
    (ht : ∀ a x G1, a ∈ l → Ex G G1 → (ρ a).p x G1 → EvT t ((wipe σ vs).set j (some x)) G1 (f a)) (he : ∀ a x G1, a ∈ l → f a = true → Ex G G1 → (ρ a).p x G1 → EvD te ((wipe σ vs).set j (some x)) G1 (rr a)) :
    EvN (tLc (iList K tl) (gName j) t te vs) σ G ((l.filter f).map rr) := fun H0 e Q q => h H0 e _ fun v G1 H1 g1 ⟨a, xs, hv, h1, h2⟩ => by
  subst hv
  refine ⟨a, rfl, ⟨xs, sq_of (g1.i _ _ h1)⟩, fun Dl hD => lc_list (xs := xs) (fun i H' => Cm G1 H1 Dl (((l.take i).filter f).map rr) H') (cm_start g1.i hD) (fun i H' _ p => ?_) (fun i x H' hi p => ⟨hw x, ?_⟩) (fun H' p => ?_)⟩
  · obtain ⟨_, G', ws, g, _, _, _⟩ := p
    exact sq_of ((g.g.trans g.i) _ _ h1)
  · obtain ⟨r, hr, hx⟩ := h2.getV hi
    rw [List.getElem?_map] at hr
    cases q2 : l[i]? with
    | none => rw [q2] at hr; cases hr
    | some b =>
      rw [q2] at hr
      have hr' : ρ b = r := Option.some.inj hr
      subst hr'
      have hm : b ∈ l := List.mem_of_getElem? q2
      exact cm_step q2 hz p (fun G2 e1 e2 => ht b x G2 hm (g1.g.trans e1) ((ρ b).mono e1 hx)) (fun hf G2 e1 e2 => he b x G2 hm hf (g1.g.trans e1) ((ρ b).mono e1 hx))
  · obtain ⟨p1, G', ws, g, hG, hD', ra⟩ := p
    have el : xs.length = l.length := by rw [h2.len, List.length_map]
    rw [el, List.take_length] at ra
    exact q Dl ws G' H' (g1.trans g) (fresh_back g1.h p1) hG hD' ra
theorem en_lcT (l : List α) (ρ : α → Rp) (f : α → Bool) (rr : α → Rp) (h : EvD tl σ G (rT K (l.map ρ))) (hz : l.length ≤ 40000) (hw : ∀ x, wipe ((wipe σ vs).set j (some x)) vs = wipe σ vs)
    (ht : ∀ a x G1, a ∈ l → Ex G G1 → (ρ a).p x G1 → EvT t ((wipe σ vs).set j (some x)) G1 (f a)) (he : ∀ a x G1, a ∈ l → f a = true → Ex G G1 → (ρ a).p x G1 → EvD te ((wipe σ vs).set j (some x)) G1 (rr a)) :
    EvN (tLc (iTup K tl) (gName j) t te vs) σ G ((l.filter f).map rr) := fun H0 e Q q => h H0 e _ fun v G1 H1 g1 ⟨a, xs, hv, h1, h2⟩ => by
  subst hv
  refine ⟨a, rfl, ⟨xs, ex_t g1.i h1⟩, fun Dl hD => lc_tup (xs := xs) (fun i H' => Cm G1 H1 Dl (((l.take i).filter f).map rr) H') (cm_start g1.i hD) (fun i H' _ p => ?_) (fun i x H' hi p => ⟨hw x, ?_⟩) (fun H' p => ?_)⟩
  · obtain ⟨_, G', ws, g, _, _, _⟩ := p
    exact ex_t (g.g.trans g.i) h1
  · obtain ⟨r, hr, hx⟩ := h2.getV hi
    rw [List.getElem?_map] at hr
    cases q2 : l[i]? with
    | none => rw [q2] at hr; cases hr
    | some b =>
      rw [q2] at hr
      have hr' : ρ b = r := Option.some.inj hr
      subst hr'
      have hm : b ∈ l := List.mem_of_getElem? q2
      exact cm_step q2 hz p (fun G2 e1 e2 => ht b x G2 hm (g1.g.trans e1) ((ρ b).mono e1 hx)) (fun hf G2 e1 e2 => he b x G2 hm hf (g1.g.trans e1) ((ρ b).mono e1 hx))
  · obtain ⟨p1, G', ws, g, hG, hD', ra⟩ := p
    have el : xs.length = l.length := by rw [h2.len, List.length_map]
    rw [el, List.take_length] at ra
    exact q Dl ws G' H' (g1.trans g) (fresh_back g1.h p1) hG hD' ra
theorem range_get {n i : Nat} (h : i < n) : (List.range n)[i]? = some i := by rw [List.getElem?_range h]
theorem en_lcR {ta : TA} (n : Nat) (f : Nat → Bool) (rr : Nat → Rp) (h : EvA ta σ G [.int (n : Int)]) (hz : n ≤ 40000) (hw : ∀ x, wipe ((wipe σ vs).set j (some x)) vs = wipe σ vs)
    (ht : ∀ (a : Nat) G1, a < n → Ex G G1 → EvT t ((wipe σ vs).set j (some (.int (a : Int)))) G1 (f a)) (he : ∀ (a : Nat) G1, a < n → f a = true → Ex G G1 → EvD te ((wipe σ vs).set j (some (.int (a : Int)))) G1 (rr a)) :
    EvN (tLc (iRng1 ta) (gName j) t te vs) σ G (((List.range n).filter f).map rr) := fun H0 e Q q => h H0 e _ fun H1 e1 => by
  refine ⟨(n : Int), rfl, by omega, by omega, fun Dl hD => ?_⟩
  have g1 := (Gr.refl e).more e1
  rw [Int.toNat_natCast]
  refine lc_range (lo := 0) (n := n) (fun i H' => Cm G H1 Dl ((((List.range n).take i).filter f).map rr) H') (cm_start g1.i hD) (fun i H' hi p => ?_) (fun H' p => ?_)
  · have e0 : (0 : Int) + (i : Int) = (i : Int) := Int.zero_add _
    rw [e0]
    exact ⟨hw _, cm_step (range_get hi) (by rw [List.length_range]; exact hz) p (fun G2 e1 e2 => ht i G2 hi e1) (fun hf G2 e1 e2 => he i G2 hi hf e1)⟩
  · obtain ⟨p1, G', ws, g, hG, hD', ra⟩ := p
    have el : (List.range n).length = n := List.length_range
    rw [show (List.range n).take n = List.range n by rw [List.take_of_length_le (by rw [el]; omega)]] at ra
    exact q Dl ws G' H' (g1.trans (⟨g.g, g.h, g.i, g.n⟩ : Gr G H1 G' H')) (fresh_back e1 p1) hG hD' ra
theorem yes_T {b : Bool} (h : b = true) : EvT tYes σ G b := fun H e Q q => by subst h; exact q H (Ex.refl H)
theorem en_is {rs ss : List Rp} (h : EvN te σ G rs) (e : rs = ss) : EvN te σ G ss := e ▸ h
theorem ed_is {r s : Rp} (h : EvD te σ G r) (e : r = s) : EvD te σ G s := e ▸ h
end

/-! ### statements, from a footprint -/
section
variable {σ : L2.St} {G H : Hp} {te ta : TE} {t : TT} {K : PySem.W.Frag} {D : Ends} {tu tw : TS} {v : V} {r : Rp} {i : Nat}
theorem s_set (e : Ex G H) (h : Ev te σ G v) (k : ∀ H1, Ex H H1 → D.nx (σ.set i (some v)) H1) : tAsg te (gName i) D σ H := h H e _ fun H1 e1 => k H1 e1
theorem s_setD (e : Ex G H) (h : EvD te σ G r) (k : ∀ v G2 H2, Gr G H G2 H2 → r.p v G2 → D.nx (σ.set i (some v)) H2) : tAsg te (gName i) D σ H := h H e _ k
theorem s_setN {rs : List Rp} (e : Ex G H) (h : EvN te σ G rs) (k : ∀ p vs G2 H2, Gr G H G2 H2 → H p = none → G2 p = none → H2 p = some (.lst vs) → RA G2 vs rs → D.nx (σ.set i (some (.ref p))) H2) : tAsg te (gName i) D σ H := h H e _ k
theorem s_retE (e : Ex G H) (h : Ev te σ G v) (k : ∀ H1, Ex H H1 → D.rt v H1) : tRet te D σ H := h H e _ k
theorem s_retD (e : Ex G H) (h : EvD te σ G r) (k : ∀ v G2 H2, Gr G H G2 H2 → r.p v G2 → D.rt v H2) : tRet te D σ H := h H e _ k
theorem s_retN {rs : List Rp} (e : Ex G H) (h : EvN te σ G rs) (k : ∀ p vs G2 H2, Gr G H G2 H2 → H p = none → G2 p = none → H2 p = some (.lst vs) → RA G2 vs rs → D.rt (.ref p) H2) : tRet te D σ H := h H e _ k
theorem s_ifE {b : Bool} (e : Ex G H) (h : EvT t σ G b) (h1 : b = true → ∀ H1, Ex H H1 → tu D σ H1) (h2 : b = false → ∀ H1, Ex H H1 → tw D σ H1) : tIfS t tu tw D σ H := h H e _ fun H1 e1 => by
  cases b with
  | true =>
    show tu D σ H1
    exact h1 rfl H1 e1
  | false =>
    show tw D σ H1
    exact h2 rfl H1 e1
/-- a call for its doing -/
theorem s_doE (e : Ex G H) (h : Ev te σ G v) (k : ∀ H1, Ex H H1 → D.nx σ H1) : tDrop te D σ H := h H e _ k
/-- xs.append(e), xs a list of our own -/
theorem s_appD {p : Addr} {ws : List V} {rs : List Rp} (e : Ex G H) (hp : H p = some (.lst ws)) (gp : G p = none) (ra : RA G ws rs) (hv : Ev ta σ G (.ref p)) (h : EvD te σ G r) (hz : rs.length < 50000)
    (k : ∀ ws' G2 H2, Ex G G2 → (∀ a o, H a = some o → a ≠ p → H2 a = some o) → Ex G2 H2 → (∀ a o, H a = some o → G a = none → G2 a = none) → G2 p = none → H2 p = some (.lst ws') → RA G2 ws' (rs ++ [r]) → D.nx σ H2) :
    tDrop (tBM K "list" rAppend ta (tCons te tNil)) D σ H := hv H e _ fun H1 e1 => ⟨Or.inl ⟨rfl, ws, sq_of (e1 p _ hp)⟩, h H1 (e.trans e1) _ fun v G2 H2 g hv2 => by
  have h2 := g.h p _ (e1 p _ hp)
  have g2 : G2 p = none := g.n p _ (e1 p _ hp) gp
  refine ⟨p, ws, v, rfl, rfl, h2, sz_lt (by rw [ra.len]; omega), k (ws ++ [v]) G2 _ g.g (fun a o z n => ?_) (Ex.mut g.i g2) (fun a o z n => g.n a o (e1 a o z) n) g2 upd_same ((ra.mono g.g).snoc hv2)⟩
  rw [upd_ne n]
  exact g.h a o (e1 a o z)⟩
end
end Mu

namespace Mu
open PySem PySem.Spec PyProof.Rows L2 Evl
/-! ### operators of one's own: the special methods of an instance -/
section
variable {X : Cx} {CX : CXT} {k : Nat} {f C : Addr} {fd : FuncData} {ps : List Str} {sp : Sp} {E : XK}
/-- the callee runs, somewhere below this body -/
theorem run_fnA {A : Around} {pins : List (Addr × Obj)} {σ : L2.St} {H : Hp} {s : Shared} {Q : VK} {us : List Value} {vs : List V} (hA : A.frames = X.A.frames) (F : FnOk X.prog X.w X.K X.mg X.base CX k f fd ps sp) (hr : Room k A) (hb : Binds X.K fd ps []) (hx : Passes CX X E)
    (I : Inv X pins σ H s) (r : Vals vs us) (h : sp vs H Q E) : wpAny (model X.prog X.w) A (call (.ref f) us) (EP X pins σ Q) X.xe s := by
  have hl : (us ++ []).length = ps.length := by rw [List.append_nil, ← r.length]; exact F.len _ _ _ _ h
  have e := I.env0
  have e0 : Env0 X.prog X.w X.K X.mg X.base A X.stack s H := ⟨by rw [hA]; exact e.frames, e.mod, e.bs, e.bsz, e.funs, e.frf, e.hok, e.bare⟩
  have hbb := hb s us I.kIn hl
  rw [List.append_nil] at hbb
  refine wpAny_call (codeAny_mono (F.run A X.stack s H ⟨us, []⟩ us vs Q E hr e0 hbb r h) fun r s' hq => ?_)
  cases r with
  | error e => exact hx pins σ H s e s' I hq
  | ok fl =>
    cases fl with
    | ret u => exact I.after hq
    | next => exact False.elim hq
    | brk => exact False.elim hq
    | cont => exact False.elim hq
theorem ep_back {pins : List (Addr × Obj)} {σ : L2.St} {Q : VK} {u : Value} {s' : Shared} (h : EP X pins σ Q u s') : PySem.W.CmpBack (EP X pins σ Q) u s' := by
  obtain ⟨v, H', I, r, q⟩ := id h
  cases v with
  | non => cases (show u = Value.none from r); exact h
  | bl b => cases (show u = Value.bool b from r); exact h
  | int i => obtain ⟨t, e⟩ := (show ∃ t, u = Value.int i t from r); subst e; exact h
  | str i => obtain ⟨t, e⟩ := (show ∃ t, u = Value.str i t from r); subst e; exact h
  | byt i => obtain ⟨t, e⟩ := (show ∃ t, u = Value.bytes i t from r); subst e; exact h
  | flt i => obtain ⟨t, e⟩ := (show ∃ t, u = Value.float i t from r); subst e; exact h
  | ref a => cases (show u = Value.ref a from r); exact h
  | ty n => cases (show u = Value.type n from r); exact h
/-- a special method stands in the class -/
structure Dun (K : PySem.W.Frag) (C : Addr) (m : Str) (f : Addr) : Prop where
  at_ : PySem.W.findIn K (.ref C) m = some (some (.ref f))
  fn : PySem.W.isFn K (.ref f) = true
def rOwn2 (C : Addr) (sp : Sp) (E : XK) : R2 := fun x y H Q => ∃ a b dx fs dy gs, x = .ref a ∧ y = .ref b ∧ H a = some (.ins C dx fs) ∧ H b = some (.ins C dy gs) ∧ sp [.ref a, .ref b] H Q E
theorem op_own {op : Operator} {m : Str} (hm : PySem.dunder op.info.2 = m) (d : Dun X.K C m f) (hc : PySem.W.selfFirst X.K C = true) (F : FnOk X.prog X.w X.K X.mg X.base CX k f fd ps sp) (hr : Room k X.A) (hb : Binds X.K fd ps []) (hx : Passes CX X E) : OpR X (binaryOp op) (rOwn2 C sp E) := by
  intro pins s σ H x y u v Q I rx ry h
  obtain ⟨a, b, dx, fs, dy, gs, rfl, rfl, ha, hb', q⟩ := h
  cases rx
  cases ry
  obtain ⟨mA, J, _⟩ := ins_get I.hok ha
  obtain ⟨mB, J', _⟩ := ins_get I.hok hb'
  obtain ⟨od, J, _⟩ := J.look
  obtain ⟨od', J', _⟩ := J'.look
  obtain ⟨m0, hF⟩ := I.fr
  subst hm
  refine PySem.W.binop_K hF I.ok.mod.kin J J'.type hc d.at_ d.fn ?_
  exact wpAny_mono (run_fnA (vs := [.ref a, .ref b]) rfl F hr hb hx I (.cons rfl (.cons rfl .nil)) q) (fun u s' h => ep_back h) (fun _ _ z => z)
theorem cmp_own {op : CmpOp} {m : Str} (hm : (cmpInfo op).2.1 = m) (hop : ∀ a b, compareOp op a b = richCompare op a b) (d : Dun X.K C m f) (F : FnOk X.prog X.w X.K X.mg X.base CX k f fd ps sp) (hr : Room k X.A) (hb : Binds X.K fd ps []) (hx : Passes CX X E) : OpR X (compareOp op) (rOwn2 C sp E) := by
  intro pins s σ H x y u v Q I rx ry h
  obtain ⟨a, b, dx, fs, dy, gs, rfl, rfl, ha, hb', q⟩ := h
  cases rx
  cases ry
  obtain ⟨mA, J, _⟩ := ins_get I.hok ha
  obtain ⟨mB, J', _⟩ := ins_get I.hok hb'
  obtain ⟨od, J, _⟩ := J.look
  obtain ⟨od', J', _⟩ := J'.look
  obtain ⟨m0, hF⟩ := I.fr
  subst hm
  rw [hop]
  refine PySem.W.cmp_K (tb := .ref C) hr.units0 hF I.ok.mod.kin J J'.type (by simp [PySem.W.notFirst]) d.at_ d.fn ?_
  exact wpAny_mono (run_fnA (vs := [.ref a, .ref b]) rfl F hr hb hx I (.cons rfl (.cons rfl .nil)) q) (fun u s' h => ep_back h) (fun _ _ z => z)
def rOwn1 (C : Addr) (sp : Sp) (E : XK) : V → Hp → VK → Prop := fun x H Q => ∃ a dx fs, x = .ref a ∧ H a = some (.ins C dx fs) ∧ sp [.ref a] H Q E
theorem inv_own (d : Dun X.K C "__invert__" f) (F : FnOk X.prog X.w X.K X.mg X.base CX k f fd ps sp) (hr : Room k X.A) (hb : Binds X.K fd ps []) (hx : Passes CX X E) : UnR X (unaryOp .Invert) (rOwn1 C sp E) := by
  intro pins s σ H x u Q I rx h
  obtain ⟨a, dx, fs, rfl, ha, q⟩ := h
  cases rx
  obtain ⟨mA, J, _⟩ := ins_get I.hok ha
  obtain ⟨od, J, _⟩ := J.look
  obtain ⟨m0, hF⟩ := I.fr
  exact PySem.W.ksp_inv hF I.ok.mod.kin J d.at_ d.fn (run_fnA (vs := [.ref a]) rfl F hr hb hx I (.cons rfl .nil) q)
/-- o[i] -/
def rOwnIx (C : Addr) (sp : Sp) (E : XK) : R2 := fun x y H Q => ∃ a dx fs, x = .ref a ∧ H a = some (.ins C dx fs) ∧ sp [.ref a, y] H Q E
theorem pe_ixOwn {a b : Expr} {ta tb : TE} {pos : Pos} (d : Dun X.K C "__getitem__" f) (hfi : PySem.W.fnIn X.K f = true) (F : FnOk X.prog X.w X.K X.mg X.base CX k f fd ps sp) (hr : Room (k + 1) X.A) (hb : Binds X.K fd ps []) (hx : Passes CX X E) (ha : PE X a ta) (hbe : PE X b tb)
    (hsl : ∀ o i, subscripted b true o i = runValue (.builtin "lifetime.subscript" ⟨[o, i], []⟩) := by intro _ _; with_unfolding_all rfl) : PE X (.Subscript a b pos) (tOp (rOwnIx C sp E) ta tb) := by
  refine ⟨fun pins s σ H Q I h => ?_⟩
  refine Subscript_ (binT ha hbe I h fun v u s2 x y H2 I2 rx ry q => ?_)
  obtain ⟨p, dx, fs, rfl, hp, q⟩ := q
  cases rx
  obtain ⟨mA, J, _⟩ := ins_get I2.hok hp
  obtain ⟨od, J, _⟩ := J.look
  obtain ⟨m0, hF⟩ := I2.fr
  exact PySem.W.sub_K hF I2.ok.mod.kin J d.at_ hfi d.fn (run_fnA (vs := [.ref p, y]) rfl F hr.in1 hb hx I2 (.cons rfl (.cons ry .nil)) q) (hsl _ _)
/-- v in o -/
def rOwnIn (C : Addr) (neg : Bool) (sp : Sp) (E : XK) : R2 := fun x y H Q => ∃ a dx fs, y = .ref a ∧ H a = some (.ins C dx fs) ∧ sp [.ref a, x] H (fun v H' => ∃ b, v = .bl b ∧ Q (.bl (if neg then !b else b)) H') E
theorem in_own (d : Dun X.K C "__contains__" f) (F : FnOk X.prog X.w X.K X.mg X.base CX k f fd ps sp) (hr : Room k X.A) (hb : Binds X.K fd ps []) (hx : Passes CX X E) : OpR X (compareOp .In) (rOwnIn C false sp E) := by
  intro pins s σ H x y u v Q I rx ry h
  obtain ⟨a, dx, fs, rfl, ha, q⟩ := h
  cases ry
  obtain ⟨mA, J, _⟩ := ins_get I.hok ha
  obtain ⟨od, J, _⟩ := J.look
  obtain ⟨m0, hF⟩ := I.fr
  refine PySem.W.in_K hF I.ok.mod.kin J d.at_ d.fn (wpAny_mono (run_fnA (vs := [.ref a, x]) rfl F hr hb hx I (.cons rfl (.cons rx .nil)) q) (fun w s' h => ?_) (fun _ _ z => z))
  obtain ⟨z, H', I', rz, b, rfl, q'⟩ := h
  cases (show w = Value.bool b from rz)
  exact wpAny_truthy_bool ⟨.bl b, H', I', rfl, q'⟩
theorem notIn_own (d : Dun X.K C "__contains__" f) (F : FnOk X.prog X.w X.K X.mg X.base CX k f fd ps sp) (hr : Room k X.A) (hb : Binds X.K fd ps []) (hx : Passes CX X E) : OpR X (compareOp .NotIn) (rOwnIn C true sp E) := by
  intro pins s σ H x y u v Q I rx ry h
  obtain ⟨a, dx, fs, rfl, ha, q⟩ := h
  cases ry
  obtain ⟨mA, J, _⟩ := ins_get I.hok ha
  obtain ⟨od, J, _⟩ := J.look
  obtain ⟨m0, hF⟩ := I.fr
  refine PySem.W.notIn_K hF I.ok.mod.kin J d.at_ d.fn (wpAny_mono (run_fnA (vs := [.ref a, x]) rfl F hr hb hx I (.cons rfl (.cons rx .nil)) q) (fun w s' h => ?_) (fun _ _ z => z))
  obtain ⟨z, H', I', rz, b, rfl, q'⟩ := h
  cases (show w = Value.bool b from rz)
  exact wpAny_truthy_bool ⟨.bl (!b), H', I', rfl, q'⟩
end
/-! ### an instance called -/
section
variable {X : Cx} {CX : CXT} {k : Nat} {f C : Addr} {fd : FuncData} {ps : List Str} {sp : Sp} {E : XK} {e fe : Expr} {es : List Expr} {tf : TE} {t : TA} {pos : Pos}
def tCallOwn (C : Addr) (sp : Sp) (E : XK) (tf : TE) (t : TA) : TE := fun σ H Q => tf σ H fun y H1 => ∃ a, y = V.ref a ∧ t σ H1 fun vs H2 => (∃ dx fs, H2 a = some (.ins C dx fs)) ∧ sp (V.ref a :: vs) H2 Q E
theorem fnR_of (F : FnOk X.prog X.w X.K X.mg X.base CX k f fd ps sp) (hb : Binds X.K fd ps []) : FnR X.prog X.w X.K X.mg X.base CX k f sp := fun A outer s H us vs Q E hr e0 r h => by
  have hl : (us ++ []).length = ps.length := by rw [List.append_nil, ← r.length]; exact F.len _ _ _ _ h
  have kin : X.K.In s.heap := e0.mod.kin.keeps fun b o z => (e0.bs b o z).1
  have hbb := hb s us kin hl
  rw [List.append_nil] at hbb
  exact F.run A outer s H ⟨us, []⟩ us vs Q E hr e0 hbb r h
theorem pe_callOwn (hf : PE X fe tf) (d : Dun X.K C "__call__" f) (hfi : PySem.W.fnIn X.K f = true) (F : FnOk X.prog X.w X.K X.mg X.base CX k f fd ps sp) (hr : Room k X.A) (hb : Binds X.K fd ps []) (hx : Passes CX X E) (ha : PA X (e :: es) t)
    (ht : eval (.Call fe (e :: es) [] pos) X.env = (do callWith pos (← eval fe X.env) [] (backTo pos (starEach (e :: es) X.env)) (backToKw pos (keywordEach [] X.env))) := by rfl)
    (he : starEach (e :: es) X.env = (false, eval e X.env) :: starEach es X.env := by rfl) (hpl : (backTo pos (starEach es X.env)).any (·.1) = false := by rfl) : PE X (.Call fe (e :: es) [] pos) (tCallOwn C sp E tf t) := by
  refine ⟨fun pins s σ H Q I h => ?_⟩
  refine Call_ (thn (hf.run pins s σ H _ I h) fun u s1 ⟨y, H1, I1, ry, a, ey, q⟩ => ?_) ht
  subst ey
  obtain rfl : u = Value.ref a := ry
  refine StX.callO_with (thn (ha.run pos pins s1 σ H1 _ I1 q) fun us s2 ⟨vs, H2, I2, r, hi, q2⟩ => ?_) he hpl
  obtain ⟨dx, fs, hi⟩ := hi
  obtain ⟨ox, od, J, hd⟩ := StX.insC_at I2 (Or.inr ⟨dx, fs, hi⟩)
  exact ⟨⟨C, ox, od, J, hd⟩, StX.run_callO ⟨d.at_, d.fn, hfi⟩ (fnR_of F hb) hr hx I2 (.inr ⟨dx, fs, hi⟩) r q2⟩
end
/-! ### rules with the written part told: within a comprehension's block -/
section
variable {X : Cx} (K : PySem.W.Frag) {tg l e a b o : Expr} {tl ta tb te to : TE} {f : Str} {pos : Pos}
theorem pi_listK (hl : PE X l tl) (hK : X.K = K := by rfl) : PI X tg l (iList K tl) := hK ▸ pi_list hl
theorem pi_tupK (hl : PE X l tl) (hK : X.K = K := by rfl) : PI X tg l (iTup K tl) := hK ▸ pi_tup hl
theorem ix_listK (hK : X.K = K := by rfl) : IxR X (rIxL K) := hK ▸ ix_list
theorem ix_tupK (hK : X.K = K := by rfl) : IxR X (rIxT K) := hK ▸ ix_tup
theorem pe_fldK (he : PE X e ta) (hb : attributeBase e f X.env (eval e X.env) = eval e X.env := by rfl) (hK : X.K = K := by rfl) : PE X (.Attribute e f pos) (tFld K ta f) := hK ▸ pe_fld he hb
theorem call_lenK (hK : X.K = K := by rfl) : CallR X (.builtin "len") (rLenS K) := hK ▸ call_len_seq
theorem call_tupK (hK : X.K = K := by rfl) : CallR X (.type "tuple") (rTupO K) := hK ▸ call_tuple_of
theorem call_listK (hK : X.K = K := by rfl) : CallR X (.type "list") (rListS K) := hK ▸ call_list_of
theorem call_isiK (hK : X.K = K := by rfl) : CallR X (.builtin "isinstance") (rIsi K) := hK ▸ call_isi
theorem op_inK (hK : X.K = K := by rfl) : OpR X (compareOp .In) (rIn K false) := hK ▸ op_in_seq
theorem op_notInK (hK : X.K = K := by rfl) : OpR X (compareOp .NotIn) (rIn K true) := hK ▸ op_notIn_seq
theorem op_eqK (hu : X.A.units + 64 < cLine) (hK : X.K = K := by rfl) : OpR X (compareOp .Eq) (rEqD K) := hK ▸ op_eqD hu
theorem op_neK (hu : X.A.units + 64 < cLine) (hK : X.K = K := by rfl) : OpR X (compareOp .NotEq) (rNeD K) := hK ▸ op_neD hu
theorem sl_listK (hK : X.K = K := by rfl) : SlR X (rSlL K) := hK ▸ sl_list
end
end Mu

namespace Mu
open PySem PySem.Spec PyProof.Rows L2 He
/-! ### the head's facts: names, further facts, defs -/
abbrev FactB := PySem.W.Frag → Bool
def obsM (fa : List Fa) (ex : List FactB) (fn : List DefD) (K : PySem.W.Frag) : AlD := (((fa.all fun f => f.ok K) && ex.all fun f => f K) && fn.all fun d => d.ok K, fn.map fun d => fnW K d.at_)
def SaysM (fa : List Fa) (ex : List FactB) (fn : List DefD) (K : PySem.W.Frag) : Prop := obsM fa ex fn K = valD fn
def obsMG (n : Nat) (fa : List Fa) (ex : List FactB) (fn : List DefD) (g : Addr → Option Obj) : AlD := obsM fa ex fn (frG g (asD g n))
def hookM (n : Nat) (fa : List Fa) (ex : List FactB) (fn : List DefD) : PySem.W.Hook where
  α := AlD
  obs := fun s => obsMG n fa ex fn s.heap.get?
  val := fun _ => valD fn
  says := fun _ h => ∃ K : PySem.W.Frag, K.In h ∧ SaysM fa ex fn K
  of := fun _ _ e => ⟨_, frG_in, e⟩
  keeps := fun _ _ _ ⟨K, hK, c⟩ k => ⟨K, PySem.W.Frag.In.keeps hK k, c⟩
theorem obsMG_eq {n : Nat} {fa : List Fa} {ex : List FactB} {fn : List DefD} {g : Addr → Option Obj} {s : Shared} (h : ∀ a, g a = s.heap.get? a) : obsMG n fa ex fn g = (hookM n fa ex fn).obs s := by
  have e : g = s.heap.get? := funext h
  rw [e] <;> rfl
section
variable {fa : List Fa} {ex : List FactB} {fn : List DefD} {K : PySem.W.Frag}
theorem SaysM.fact (c : SaysM fa ex fn K) (i : Nat) {f : Fa} (h : fa[i]? = some f := by rfl) : f.ok K = true := by
  have c1 := (ba (ba (show (((fa.all fun f => f.ok K) && ex.all fun f => f K) && fn.all fun d => d.ok K) = true from congrArg (fun z : AlD => z.1) c)).1).1
  exact List.all_eq_true.mp c1 f (List.mem_of_getElem? h)
theorem SaysM.exf (c : SaysM fa ex fn K) (i : Nat) {f : FactB} (h : ex[i]? = some f := by rfl) : f K = true := by
  have c1 := (ba (ba (show (((fa.all fun f => f.ok K) && ex.all fun f => f K) && fn.all fun d => d.ok K) = true from congrArg (fun z : AlD => z.1) c)).1).2
  exact List.all_eq_true.mp c1 f (List.mem_of_getElem? h)
theorem SaysM.def_ (c : SaysM fa ex fn K) (i : Nat) {d : DefD} (h : fn[i]? = some d := by rfl) : ∃ fd, FunD K d.name d.qual d.params d.body d.scope (d.dvs K) (d.kws K) (fAd K d.at_) fd := by
  have c2 := (ba (show (((fa.all fun f => f.ok K) && ex.all fun f => f K) && fn.all fun d => d.ok K) = true from congrArg (fun z : AlD => z.1) c)).2
  have e : fn.map (fun d => fnW K d.at_) = fn.map DefD.val := congrArg (fun z : AlD => z.2) c
  have e2 : (fn.map fun d => fnW K d.at_)[i]? = (fn.map DefD.val)[i]? := by rw [e]
  rw [List.getElem?_map, List.getElem?_map, h] at e2
  exact DefD.funD (Option.some.inj e2) (List.all_eq_true.mp c2 d (List.mem_of_getElem? h))
end
end Mu

namespace Mu
open PySem
/-! ### bits of naturals -/
theorem band_nat (a b : Nat) : Builtin.bitAnd (a : Int) (b : Int) = ((a &&& b : Nat) : Int) := by simp [Builtin.bitAnd]
theorem bor_nat (a b : Nat) : Builtin.bitOr (a : Int) (b : Int) = ((a ||| b : Nat) : Int) := by
  unfold Builtin.bitOr
  have h1 : ¬ (0 : Int) ≤ Builtin.bitNot (a : Int) := by unfold Builtin.bitNot; omega
  have h2 : ¬ (0 : Int) ≤ Builtin.bitNot (b : Int) := by unfold Builtin.bitNot; omega
  have n1 : Builtin.bitNot (Builtin.bitNot (a : Int)) = (a : Int) := by unfold Builtin.bitNot; omega
  have n2 : Builtin.bitNot (Builtin.bitNot (b : Int)) = (b : Int) := by unfold Builtin.bitNot; omega
  have e : Builtin.bitAnd (Builtin.bitNot (a : Int)) (Builtin.bitNot (b : Int)) = Builtin.bitNot (((a ||| b : Nat)) : Int) := by
    unfold Builtin.bitAnd
    rw [decide_eq_false h1, decide_eq_false h2]
    simp [n1, n2]
  rw [e]
  unfold Builtin.bitNot; omega
theorem band_not (a b : Nat) : Builtin.bitAnd (a : Int) (Builtin.bitNot (b : Int)) = ((a - (a &&& b) : Nat) : Int) := by
  have h2 : ¬ (0 : Int) ≤ Builtin.bitNot (b : Int) := by unfold Builtin.bitNot; omega
  have n2 : Builtin.bitNot (Builtin.bitNot (b : Int)) = (b : Int) := by unfold Builtin.bitNot; omega
  have le : a &&& b ≤ a := Nat.and_le_left
  unfold Builtin.bitAnd
  rw [decide_eq_false h2, decide_eq_true (Int.natCast_nonneg a)]
  simp only [n2, Int.toNat_natCast]
  omega
theorem shl_nat (k : Nat) : (1 : Int) * 2 ^ ((k : Int)).toNat = ((2 ^ k : Nat) : Int) := by
  rw [Int.toNat_natCast, Int.one_mul, Int.natCast_pow]; rfl
theorem shr_nat (n k : Nat) : (n : Int) / 2 ^ ((k : Int)).toNat = ((n / 2 ^ k : Nat) : Int) := by
  rw [Int.toNat_natCast, Int.natCast_ediv, Int.natCast_pow]; rfl
theorem shr1 (n : Nat) : (n : Int) / 2 ^ ((1 : Int)).toNat = ((n / 2 : Nat) : Int) := by
  have := shr_nat n 1
  simpa using this
theorem and1_test (n : Nat) : ((n &&& 1 : Nat) : Int) = 1 ↔ n.testBit 0 = true := by
  rw [Nat.and_one_is_mod, Nat.testBit_zero]
  simp
  omega
theorem shr_test (n k : Nat) : (n / 2 ^ k).testBit 0 = n.testBit k := by
  rw [← Nat.shiftRight_eq_div_pow, Nat.testBit_shiftRight]
  simp
theorem bit_test (n k : Nat) : decide (Builtin.bitAnd ((n : Int) / 2 ^ ((k : Int)).toNat) 1 = 1) = n.testBit k := by
  rw [shr_nat, show (1 : Int) = ((1 : Nat) : Int) from rfl, band_nat]
  rw [Bool.eq_iff_iff, decide_eq_true_iff]
  rw [show ((1 : Nat) : Int) = 1 from rfl, and1_test, shr_test]
/-- a < 2 ^ k by its bits -/
theorem lt_pow_of_bits {n k : Nat} (h : ∀ i, n.testBit i = true → i < k) : n < 2 ^ k := by
  refine Nat.lt_pow_two_of_testBit n fun i hi => ?_
  cases q : n.testBit i with
  | false => rfl
  | true => exact absurd (h i q) (Nat.not_lt.mpr hi)
theorem bit_lt {n k i : Nat} (h : n < 2 ^ k) (hi : n.testBit i = true) : i < k := by
  rcases Nat.lt_or_ge i k with q | q
  · exact q
  · rw [Nat.testBit_lt_two_pow (Nat.lt_of_lt_of_le h (Nat.pow_le_pow_right (by decide) q))] at hi
    cases hi
/-! ### the positions of the set bits -/
def bitsN (n : Nat) : List Nat := (List.range n).filter n.testBit
theorem bits_more {n k : Nat} (h : n < 2 ^ k) : ∀ d : Nat, (List.range (k + d)).filter n.testBit = (List.range k).filter n.testBit
  | 0 => rfl
  | d + 1 => by
    rw [← Nat.add_assoc, List.range_succ, List.filter_append, bits_more h d]
    have z : n.testBit (k + d) = false := Nat.testBit_lt_two_pow (Nat.lt_of_lt_of_le h (Nat.pow_le_pow_right (by decide) (by omega)))
    simp [z]
theorem bits_eq {n k : Nat} (h : n < 2 ^ k) : (List.range k).filter n.testBit = bitsN n := by
  rcases Nat.le_total k n with q | q
  · have e := bits_more h (n - k)
    rw [show k + (n - k) = n by omega] at e
    exact e.symm
  · have e := bits_more (Nat.lt_two_pow_self (n := n)) (k - n)
    rw [show n + (k - n) = k by omega] at e
    exact e
theorem mem_bits {n i : Nat} : i ∈ bitsN n ↔ n.testBit i = true := by
  unfold bitsN
  rw [List.mem_filter, List.mem_range]
  exact ⟨fun h => h.2, fun h => ⟨bit_lt Nat.lt_two_pow_self h, h⟩⟩
theorem bits_len {n k : Nat} (h : n < 2 ^ k) : (bitsN n).length ≤ k := by
  rw [← bits_eq h]
  have := List.length_filter_le n.testBit (List.range k)
  rw [List.length_range] at this
  exact this
/-! ### a mask of words -/
def maskN (l : List Nat) : Nat := l.foldl (fun m w => m ||| 2 ^ w) 0
theorem maskN_from (l : List Nat) : ∀ m i, (l.foldl (fun m w => m ||| 2 ^ w) m).testBit i = (m.testBit i || decide (i ∈ l)) := by
  induction l with
  | nil => intro m i; simp
  | cons w r ih =>
    intro m i
    rw [List.foldl_cons, ih, Nat.testBit_or, Nat.testBit_two_pow]
    simp only [List.mem_cons]
    by_cases h1 : w = i <;> by_cases h2 : i ∈ r <;> simp [h1, h2, eq_comm]
theorem maskN_bit (l : List Nat) (i : Nat) : (maskN l).testBit i = decide (i ∈ l) := by
  unfold maskN
  rw [maskN_from]; simp
theorem maskN_lt {l : List Nat} {k : Nat} (h : ∀ w ∈ l, w < k) : maskN l < 2 ^ k := lt_pow_of_bits fun i hi => by
  rw [maskN_bit] at hi
  exact h i (of_decide_eq_true hi)
theorem maskN_take {l : List Nat} {i : Nat} {w : Nat} (h : l[i]? = some w) : maskN (l.take (i + 1)) = maskN (l.take i) ||| 2 ^ w := by
  unfold maskN
  rw [List.take_add_one, h, List.foldl_append]
  rfl
/-! ### images and products -/
def bitOf (m : List Nat) (a b : Nat) : Bool := (m.getD a 0).testBit b
def imageTo (m : List Nat) (w : Nat) (k : Nat) : Nat := (List.range k).foldl (fun o j => if w.testBit j then o ||| m.getD j 0 else o) 0
def imageN (m : List Nat) (w : Nat) : Nat := imageTo m w m.length
theorem imageTo_succ (m : List Nat) (w k : Nat) : imageTo m w (k + 1) = if w.testBit k then imageTo m w k ||| m.getD k 0 else imageTo m w k := by
  unfold imageTo
  rw [List.range_succ, List.foldl_append]
  rfl
theorem imageTo_bit (m : List Nat) (w : Nat) : ∀ k i, (imageTo m w k).testBit i = true ↔ ∃ j, j < k ∧ w.testBit j = true ∧ bitOf m j i = true
  | 0, i => by simp [imageTo]
  | k + 1, i => by
    rw [imageTo_succ]
    have ih := imageTo_bit m w k i
    by_cases q : w.testBit k = true
    · rw [if_pos q, Nat.testBit_or, Bool.or_eq_true, ih]
      constructor
      · rintro (⟨j, h1, h2⟩ | h)
        · exact ⟨j, by omega, h2⟩
        · exact ⟨k, by omega, q, h⟩
      · rintro ⟨j, h1, h2, h3⟩
        rcases Nat.lt_or_ge j k with z | z
        · exact .inl ⟨j, z, h2, h3⟩
        · have : j = k := by omega
          subst this
          exact .inr h3
    · rw [if_neg q, ih]
      constructor
      · rintro ⟨j, h1, h2⟩
        exact ⟨j, by omega, h2⟩
      · rintro ⟨j, h1, h2, h3⟩
        rcases Nat.lt_or_ge j k with z | z
        · exact ⟨j, z, h2, h3⟩
        · have : j = k := by omega
          subst this
          exact absurd h2 q
theorem imageN_bit (m : List Nat) (w i : Nat) : (imageN m w).testBit i = true ↔ ∃ j, j < m.length ∧ w.testBit j = true ∧ bitOf m j i = true := imageTo_bit m w m.length i
/-- masks of n words -/
structure Wf (n : Nat) (m : List Nat) : Prop where
  len : m.length = n
  lt : ∀ x ∈ m, x < 2 ^ n
theorem Wf.get {n : Nat} {m : List Nat} (h : Wf n m) (a : Nat) : m.getD a 0 < 2 ^ n := by
  rw [List.getD_eq_getElem?_getD]
  cases q : m[a]? with
  | none => exact Nat.two_pow_pos n
  | some x => exact h.lt x (List.mem_of_getElem? q)
theorem Wf.bit {n : Nat} {m : List Nat} (h : Wf n m) {a b : Nat} (q : bitOf m a b = true) : a < n ∧ b < n := by
  refine ⟨?_, bit_lt (h.get a) q⟩
  rcases Nat.lt_or_ge a n with z | z
  · exact z
  · unfold bitOf at q
    rw [List.getD_eq_getElem?_getD, List.getElem?_eq_none (by rw [h.len]; exact z)] at q
    simp at q
theorem imageTo_lt {n : Nat} {m : List Nat} (h : Wf n m) (w k : Nat) : imageTo m w k < 2 ^ n := lt_pow_of_bits fun i hi => by
  obtain ⟨j, _, _, q⟩ := (imageTo_bit m w k i).mp hi
  exact (h.bit q).2
theorem imageN_lt {n : Nat} {m : List Nat} (h : Wf n m) (w : Nat) : imageN m w < 2 ^ n := imageTo_lt h w _
/-- two relations with the same pairs are one -/
theorem Wf.ext {n : Nat} {m m' : List Nat} (h : Wf n m) (h' : Wf n m') (e : ∀ a b, a < n → b < n → bitOf m a b = bitOf m' a b) : m = m' := by
  refine List.ext_getElem? fun a => ?_
  rcases Nat.lt_or_ge a n with z | z
  · have h1 : a < m.length := by rw [h.len]; exact z
    have h2 : a < m'.length := by rw [h'.len]; exact z
    rw [List.getElem?_eq_getElem h1, List.getElem?_eq_getElem h2]
    congr 1
    refine Nat.eq_of_testBit_eq fun b => ?_
    have g1 : m.getD a 0 = m[a] := by rw [List.getD_eq_getElem?_getD, List.getElem?_eq_getElem h1]; rfl
    have g2 : m'.getD a 0 = m'[a] := by rw [List.getD_eq_getElem?_getD, List.getElem?_eq_getElem h2]; rfl
    rcases Nat.lt_or_ge b n with y | y
    · have q := e a b z y
      unfold bitOf at q
      rw [g1, g2] at q
      exact q
    · rw [Nat.testBit_lt_two_pow (Nat.lt_of_lt_of_le (h.lt _ (List.getElem_mem h1)) (Nat.pow_le_pow_right (by decide) y)), Nat.testBit_lt_two_pow (Nat.lt_of_lt_of_le (h'.lt _ (List.getElem_mem h2)) (Nat.pow_le_pow_right (by decide) y))]
  · rw [List.getElem?_eq_none (by rw [h.len]; exact z), List.getElem?_eq_none (by rw [h'.len]; exact z)]
def prodN (f l : List Nat) : List Nat := f.map (imageN l)
theorem getD_map {f : Nat → Nat} {l : List Nat} {a : Nat} (h : a < l.length) : (l.map f).getD a 0 = f (l.getD a 0) := by
  rw [List.getD_eq_getElem?_getD, List.getD_eq_getElem?_getD, List.getElem?_map, List.getElem?_eq_getElem h]
  rfl
theorem getD_range_map {f : Nat → Nat} {n a : Nat} (h : a < n) : ((List.range n).map f).getD a 0 = f a := by
  rw [List.getD_eq_getElem?_getD, List.getElem?_map, List.getElem?_range h]
  rfl
theorem wf_range {n : Nat} {f : Nat → Nat} (h : ∀ a, a < n → f a < 2 ^ n) : Wf n ((List.range n).map f) := ⟨by simp, fun x hx => by
  obtain ⟨a, ha, e⟩ := List.mem_map.mp hx
  rw [← e]
  exact h a (List.mem_range.mp ha)⟩
theorem prodN_wf {n : Nat} {f l : List Nat} (hf : Wf n f) (hl : Wf n l) : Wf n (prodN f l) := ⟨by unfold prodN; rw [List.length_map]; exact hf.len, fun x hx => by
  obtain ⟨a, _, e⟩ := List.mem_map.mp hx
  rw [← e]
  exact imageN_lt hl a⟩
theorem prodN_bit {n : Nat} {f l : List Nat} (hf : Wf n f) (hl : Wf n l) {a c : Nat} (ha : a < n) : bitOf (prodN f l) a c = true ↔ ∃ b, b < n ∧ bitOf f a b = true ∧ bitOf l b c = true := by
  unfold bitOf prodN
  rw [getD_map (by rw [hf.len]; exact ha), imageN_bit, hl.len]
  rfl
end Mu
namespace Mu
/-! ### the greatest table behind -/
theorem maskN_bits (n : Nat) : maskN (bitsN n) = n := Nat.eq_of_testBit_eq fun i => by
  rw [maskN_bit, Bool.eq_iff_iff, decide_eq_true_iff, mem_bits]
def behindTo (f w : List Nat) (mid k : Nat) : Nat := (List.range k).foldl (fun m j => if bitOf f j mid then m &&& w.getD j 0 else m) (2 ^ f.length - 1)
theorem behindTo_succ (f w : List Nat) (mid k : Nat) : behindTo f w mid (k + 1) = if bitOf f k mid = true then behindTo f w mid k &&& w.getD k 0 else behindTo f w mid k := by
  unfold behindTo
  rw [List.range_succ, List.foldl_append]
  rfl
def behindAt (f w : List Nat) (mid : Nat) : Nat := behindTo f w mid f.length
def behindN (f w : List Nat) : List Nat := (List.range f.length).map (behindAt f w)
theorem behindTo_bit (f w : List Nat) (mid : Nat) : ∀ k c, (behindTo f w mid k).testBit c = true ↔ c < f.length ∧ ∀ j, j < k → bitOf f j mid = true → bitOf w j c = true
  | 0, c => by
    unfold behindTo
    simp [Nat.testBit_two_pow_sub_one]
  | k + 1, c => by
    rw [behindTo_succ]
    have ih := behindTo_bit f w mid k c
    by_cases q : bitOf f k mid = true
    · rw [if_pos q, Nat.testBit_and, Bool.and_eq_true, ih]
      constructor
      · rintro ⟨⟨h1, h2⟩, h3⟩
        refine ⟨h1, fun j hj hb => ?_⟩
        rcases Nat.lt_or_ge j k with z | z
        · exact h2 j z hb
        · have : j = k := by omega
          subst this; exact h3
      · rintro ⟨h1, h2⟩
        exact ⟨⟨h1, fun j hj => h2 j (by omega)⟩, h2 k (by omega) q⟩
    · rw [if_neg q, ih]
      constructor
      · rintro ⟨h1, h2⟩
        refine ⟨h1, fun j hj hb => ?_⟩
        rcases Nat.lt_or_ge j k with z | z
        · exact h2 j z hb
        · have : j = k := by omega
          subst this; exact absurd hb q
      · rintro ⟨h1, h2⟩
        exact ⟨h1, fun j hj => h2 j (by omega)⟩
theorem behindN_wf {n : Nat} {f w : List Nat} (hf : Wf n f) (_ : Wf n w) : Wf n (behindN f w) := by
  unfold behindN
  rw [hf.len]
  refine wf_range fun a _ => lt_pow_of_bits fun i hi => ?_
  have := ((behindTo_bit f w a f.length i).mp hi).1
  rw [hf.len] at this; exact this
theorem behindN_bit {n : Nat} {f w : List Nat} (hf : Wf n f) {mid c : Nat} (hm : mid < n) : bitOf (behindN f w) mid c = true ↔ c < n ∧ ∀ j, j < n → bitOf f j mid = true → bitOf w j c = true := by
  unfold bitOf behindN
  rw [getD_range_map (by rw [hf.len]; exact hm)]
  have := behindTo_bit f w mid f.length c
  rw [hf.len] at this
  unfold behindAt
  rw [hf.len]
  exact this
end Mu
namespace Mu
/-! ### masks put together bit by bit -/
def accTo (c : Nat → Bool) (k : Nat) : Nat := (List.range k).foldl (fun m j => if c j then m ||| 2 ^ j else m) 0
theorem accTo_succ (c : Nat → Bool) (k : Nat) : accTo c (k + 1) = if c k = true then accTo c k ||| 2 ^ k else accTo c k := by
  unfold accTo
  rw [List.range_succ, List.foldl_append]
  rfl
theorem accTo_bit (c : Nat → Bool) : ∀ k i, (accTo c k).testBit i = (decide (i < k) && c i)
  | 0, i => by simp [accTo]
  | k + 1, i => by
    rw [accTo_succ]
    have ih := accTo_bit c k i
    by_cases q : c k = true
    · rw [if_pos q, Nat.testBit_or, ih, Nat.testBit_two_pow]
      by_cases z : k = i
      · subst z; simp [q]
      · have : decide (i < k + 1) = decide (i < k) := by
          rw [Bool.eq_iff_iff, decide_eq_true_iff, decide_eq_true_iff]; omega
        rw [this, decide_eq_false z, Bool.or_false]
    · rw [if_neg q, ih]
      by_cases z : k = i
      · subst z
        have : c k = false := by cases y : c k <;> simp_all
        simp [this]
      · have : decide (i < k + 1) = decide (i < k) := by
          rw [Bool.eq_iff_iff, decide_eq_true_iff, decide_eq_true_iff]; omega
        rw [this]
theorem accTo_lt (c : Nat → Bool) (k : Nat) : accTo c k < 2 ^ k := lt_pow_of_bits fun i hi => by
  rw [accTo_bit] at hi
  have := (Bool.and_eq_true_iff.mp hi).1
  exact of_decide_eq_true this
def tabOf (n : Nat) (c : Nat → Nat → Bool) : List Nat := (List.range n).map fun a => accTo (c a) n
theorem tabOf_wf (n : Nat) (c : Nat → Nat → Bool) : Wf n (tabOf n c) := wf_range fun a _ => accTo_lt (c a) n
theorem tabOf_bit {n : Nat} {c : Nat → Nat → Bool} {a b : Nat} (ha : a < n) : bitOf (tabOf n c) a b = (decide (b < n) && c a b) := by
  unfold bitOf tabOf
  rw [getD_range_map ha]
  exact accTo_bit (c a) n b
theorem tabOf_bits {n : Nat} {c : Nat → Nat → Bool} : (tabOf n c).map bitsN = (List.range n).map fun a => (List.range n).filter (c a) := by
  unfold tabOf
  rw [List.map_map]
  refine List.map_congr_left fun a _ => ?_
  show bitsN (accTo (c a) n) = _
  rw [← bits_eq (accTo_lt (c a) n)]
  refine List.filter_congr fun i hi => ?_
  rw [accTo_bit, decide_eq_true (List.mem_range.mp hi), Bool.true_and]
/-- the turned table -/
def convN (m : List Nat) : List Nat := tabOf m.length fun out told => bitOf m told out
theorem convN_wf {n : Nat} {m : List Nat} (h : Wf n m) : Wf n (convN m) := by unfold convN; rw [h.len]; exact tabOf_wf _ _
theorem convN_bit {n : Nat} {m : List Nat} (h : Wf n m) {a b : Nat} (ha : a < n) : bitOf (convN m) a b = bitOf m b a := by
  unfold convN
  rw [h.len, tabOf_bit ha]
  by_cases q : b < n
  · rw [decide_eq_true q, Bool.true_and]
  · rw [decide_eq_false q, Bool.false_and]
    cases z : bitOf m b a with
    | false => rfl
    | true => exact absurd (h.bit z).1 q
/-- the greatest table ahead -/
def subN (x y : Nat) : Bool := decide (x - (x &&& y) = 0)
theorem subN_iff (x y : Nat) : subN x y = true ↔ ∀ i, x.testBit i = true → y.testBit i = true := by
  unfold subN
  rw [decide_eq_true_iff]
  have le : x &&& y ≤ x := Nat.and_le_left
  constructor
  · intro h i hi
    have e : x &&& y = x := by omega
    have := congrArg (fun z => z.testBit i) e
    simp only [Nat.testBit_and] at this
    rw [hi, Bool.true_and] at this
    exact this
  · intro h
    have e : x &&& y = x := Nat.eq_of_testBit_eq fun i => by
      rw [Nat.testBit_and]
      cases q : x.testBit i with
      | false => rfl
      | true => rw [h i q]; rfl
    omega
def aheadN (w l : List Nat) : List Nat := tabOf w.length fun told mid => subN (l.getD mid 0) (w.getD told 0)
theorem aheadN_wf {n : Nat} {w l : List Nat} (hw : Wf n w) (_ : Wf n l) : Wf n (aheadN w l) := by unfold aheadN; rw [hw.len]; exact tabOf_wf _ _
theorem aheadN_bit {n : Nat} {w l : List Nat} (hw : Wf n w) {a b : Nat} (ha : a < n) : bitOf (aheadN w l) a b = true ↔ b < n ∧ ∀ c, bitOf l b c = true → bitOf w a c = true := by
  unfold aheadN
  rw [hw.len, tabOf_bit ha, Bool.and_eq_true, decide_eq_true_iff, subN_iff]
  rfl
/-- turned around: ahead by behind -/
theorem ahead_turned {n : Nat} {w l : List Nat} (hw : Wf n w) (hl : Wf n l) : convN (behindN (convN l) (convN w)) = aheadN w l := by
  have wb := behindN_wf (convN_wf hl) (convN_wf hw)
  refine (convN_wf wb).ext (aheadN_wf hw hl) fun a b ha hb => ?_
  rw [convN_bit wb ha, Bool.eq_iff_iff, aheadN_bit hw ha, behindN_bit (convN_wf hl) hb]
  constructor
  · rintro ⟨_, h⟩
    refine ⟨hb, fun c hc => ?_⟩
    have hcn := (hl.bit hc).2
    have := h c hcn (by rw [convN_bit hl hcn]; exact hc)
    rw [convN_bit hw hcn] at this
    exact this
  · rintro ⟨_, h⟩
    refine ⟨ha, fun c hc hb2 => ?_⟩
    rw [convN_bit hl hc] at hb2
    rw [convN_bit hw hc]
    exact h c hb2
end Mu

namespace Mu
open PySem L2 Evl
/-! ### promises -/
def spN (R : List V → Hp → List Rp → Prop) : Sp := fun vs H Q _ => ∃ G rs, Ex G H ∧ R vs G rs ∧ ∀ p ws G2 H2, Gr G H G2 H2 → H p = none → G2 p = none → H2 p = some (.lst ws) → RA G2 ws rs → Q (.ref p) H2
def spD (R : List V → Hp → Rp → Prop) : Sp := fun vs H Q _ => ∃ G r, Ex G H ∧ R vs G r ∧ ∀ v G2 H2, Gr G H G2 H2 → r.p v G2 → Q v H2
theorem SpN.of {R : List V → Hp → List Rp → Prop} {vs : List V} {G : Hp} {rs : List Rp} (h : R vs G rs) : SpN (spN R) vs G rs := fun H e Q q _ => ⟨G, rs, e, h, q⟩
theorem SpD.of {R : List V → Hp → Rp → Prop} {vs : List V} {G : Hp} {r : Rp} (h : R vs G r) : SpD (spD R) vs G r := fun H e Q q _ => ⟨G, r, e, h, q⟩
section
variable {σ : L2.St} {G H : Hp} {te ta tb : TE} {t u : TT} {K : PySem.W.Frag} {D : Ends} {tu tw : TS} {v x y z : V} {r : Rp} {i : Nat}
theorem sq {t1 t2 : TS} (h : t1 { D with nx := t2 D } σ H) : tSeq t1 t2 D σ H := h
theorem nxt (h : D.nx σ H) : tNext D σ H := h
/-! tests over ints -/
theorem et_cmp {p : Int → Int → Bool} {a b : Int} (ha : Ev ta σ G (.int a)) (hb : Ev tb σ G (.int b)) : EvT (tTest (tOp (rI0 fun i j => .bl (p i j)) ta tb)) σ G (p a b) := et_test (ev_op ha hb rv_I0)
theorem et_eq (ha : Ev ta σ G x) (hb : Ev tb σ G y) (hs : scal x y = true) : EvT (tTest (tOp rEq ta tb)) σ G (decide (x = y)) := et_test (ev_op ha hb (rv_eq hs))
theorem et_ne (ha : Ev ta σ G x) (hb : Ev tb σ G y) (hs : scal x y = true) : EvT (tTest (tOp rNe ta tb)) σ G (!decide (x = y)) := et_test (ev_op ha hb (rv_ne hs))
/-- a call's answer in a plain value -/
theorem ev_callD {sp : Sp} {E : XK} {ta : TA} {rs : List Rp} (h : EvAD ta σ G rs) (hs : ∀ vs G2, Ex G G2 → RA G2 vs rs → SpD sp vs G2 (rV v)) : Ev (tCall sp [] E ta) σ G v := EvD.ev (ed_call h hs)
theorem ra1 {G : Hp} {vs : List V} {r : Rp} (h : RA G vs [r]) : ∃ v, vs = [v] ∧ r.p v G := by
  cases h with
  | cons h t => cases t; exact ⟨_, rfl, h⟩
theorem ra2 {G : Hp} {vs : List V} {r r' : Rp} (h : RA G vs [r, r']) : ∃ v w, vs = [v, w] ∧ r.p v G ∧ r'.p w G := by
  cases h with
  | cons h t =>
    obtain ⟨w, e, hw⟩ := ra1 t
    exact ⟨_, w, by rw [e], h, hw⟩
theorem ra3 {G : Hp} {vs : List V} {r r' r'' : Rp} (h : RA G vs [r, r', r'']) : ∃ v w x, vs = [v, w, x] ∧ r.p v G ∧ r'.p w G ∧ r''.p x G := by
  cases h with
  | cons h t =>
    obtain ⟨w, x, e, hw⟩ := ra2 t
    exact ⟨_, w, x, by rw [e], h, hw⟩
end
/-! ### loops: Pv over the footprint behind the source, the items taken so far (their number), the slots, the heap -/
section
variable {σ : L2.St} {G H : Hp} {tl : TE} {K : PySem.W.Frag} {D : Ends} {tu : TS} {j : Nat} {α : Type} {ta : TA}
theorem s_forL (l : List α) (ρ : α → Rp) (e : Ex G H) (h : EvD tl σ G (rL K (l.map ρ))) (Pv : Hp → Nat → L2.St → Hp → Prop) (h0 : ∀ G1 H1, Gr G H G1 H1 → Pv G1 0 σ H1) (hk : ∀ G1 i σ' H', Pv G1 i σ' H' → Ex G1 H')
    (hs : ∀ G1 i a x σ' H', Ex G G1 → l[i]? = some a → (ρ a).p x G1 → Pv G1 i σ' H' → tu { D with nx := Pv G1 (i + 1), ct := Pv G1 (i + 1), bk := D.nx } (σ'.set j (some x)) H') (hd : ∀ G1 σ' H', Ex G G1 → Pv G1 l.length σ' H' → D.nx σ' H') :
    tFor (iList K tl) (gName j) tu D σ H := h H e _ fun v G1 H1 g1 ⟨a, vs, hv, h1, h2⟩ => by
  subst hv
  have el : vs.length = l.length := by rw [h2.len, List.length_map]
  refine ⟨a, rfl, ⟨vs, sq_of (g1.i _ _ h1)⟩, for_list (xs := vs) (Pv G1) (h0 G1 H1 g1) (fun i σ' H' _ p => sq_of ((hk G1 i σ' H' p) _ _ h1)) (fun i x σ' H' hi p => ?_) (fun σ' H' p => hd G1 σ' H' g1.g (el ▸ p))⟩
  obtain ⟨r, hr, hx⟩ := h2.getV hi
  rw [List.getElem?_map] at hr
  cases q2 : l[i]? with
  | none => rw [q2] at hr; cases hr
  | some b =>
    rw [q2] at hr
    have hr' : ρ b = r := Option.some.inj hr
    subst hr'
    exact hs G1 i b x σ' H' g1.g q2 hx p
theorem s_forT (l : List α) (ρ : α → Rp) (e : Ex G H) (h : EvD tl σ G (rT K (l.map ρ))) (Pv : Hp → Nat → L2.St → Hp → Prop) (h0 : ∀ G1 H1, Gr G H G1 H1 → Pv G1 0 σ H1) (hk : ∀ G1 i σ' H', Pv G1 i σ' H' → Ex G1 H')
    (hs : ∀ G1 i a x σ' H', Ex G G1 → l[i]? = some a → (ρ a).p x G1 → Pv G1 i σ' H' → tu { D with nx := Pv G1 (i + 1), ct := Pv G1 (i + 1), bk := D.nx } (σ'.set j (some x)) H') (hd : ∀ G1 σ' H', Ex G G1 → Pv G1 l.length σ' H' → D.nx σ' H') :
    tFor (iTup K tl) (gName j) tu D σ H := h H e _ fun v G1 H1 g1 ⟨a, vs, hv, h1, h2⟩ => by
  subst hv
  have el : vs.length = l.length := by rw [h2.len, List.length_map]
  refine ⟨a, rfl, ⟨vs, ex_t g1.i h1⟩, for_tup (xs := vs) (Pv G1) (h0 G1 H1 g1) (fun i σ' H' _ p => ex_t (hk G1 i σ' H' p) h1) (fun i x σ' H' hi p => ?_) (fun σ' H' p => hd G1 σ' H' g1.g (el ▸ p))⟩
  obtain ⟨r, hr, hx⟩ := h2.getV hi
  rw [List.getElem?_map] at hr
  cases q2 : l[i]? with
  | none => rw [q2] at hr; cases hr
  | some b =>
    rw [q2] at hr
    have hr' : ρ b = r := Option.some.inj hr
    subst hr'
    exact hs G1 i b x σ' H' g1.g q2 hx p
theorem s_forR (n : Nat) (e : Ex G H) (h : EvA ta σ G [.int (n : Int)]) (hn : n ≤ 100000) (Pv : Nat → L2.St → Hp → Prop) (h0 : ∀ H1, Ex H H1 → Pv 0 σ H1)
    (hs : ∀ (i : Nat) σ' H', i < n → Pv i σ' H' → tu { D with nx := Pv (i + 1), ct := Pv (i + 1), bk := D.nx } (σ'.set j (some (.int (i : Int)))) H') (hd : ∀ σ' H', Pv n σ' H' → D.nx σ' H') : tFor (iRng1 ta) (gName j) tu D σ H :=
  h H e _ fun H1 e1 => ⟨(n : Int), rfl, by omega, by omega, by
    rw [Int.toNat_natCast]
    refine for_range (lo := 0) (n := n) Pv (h0 H1 e1) (fun i σ' H' hi p => ?_) hd
    rw [Int.zero_add]
    exact hs i σ' H' hi p⟩
/-- for at, x in enumerate(xs): slots j, j' -/
theorem s_forE {ta : TA} {j' : Nat} (l : List α) (ρ : α → Rp) (e : Ex G H) (h : EvAD ta σ G [rL K (l.map ρ)]) (Pv : Hp → Nat → L2.St → Hp → Prop) (h0 : ∀ G1 H1, Gr G H G1 H1 → Pv G1 0 σ H1) (hk : ∀ G1 i σ' H', Pv G1 i σ' H' → Ex G1 H')
    (hm : ∀ G1 i σ' H' H'', Pv G1 i σ' H' → Ex H' H'' → Pv G1 i σ' H'')
    (hs : ∀ G1 i a x σ' H', Ex G G1 → l[i]? = some a → (ρ a).p x G1 → Pv G1 i σ' H' → tu { D with nx := Pv G1 (i + 1), ct := Pv G1 (i + 1), bk := D.nx } ((σ'.set j (some (.int (i : Int)))).set j' (some x)) H') (hd : ∀ G1 σ' H', Ex G G1 → Pv G1 l.length σ' H' → D.nx σ' H') :
    tFor (iEnum K ta) (gTup K 2 (gCons (gName j) (gCons (gName j') gNil))) tu D σ H := h H e _ fun ws G1 H1 g1 hw => by
  obtain ⟨v, rfl, a, vs, rfl, h1, h2⟩ := ra1 hw
  have el : vs.length = l.length := by rw [h2.len, List.length_map]
  refine ⟨a, vs, rfl, sq_of (g1.i _ _ h1), fun i m σ' H' => m = vs.length - i ∧ i ≤ vs.length ∧ Pv G1 i σ' H', ⟨vs.length, by simp, Nat.zero_le _, h0 G1 H1 g1⟩, ?_⟩
  rintro i m σ' H' ⟨rfl, hi, p⟩
  have q : SqL K H' a vs := sq_of ((hk G1 i σ' H' p) _ _ h1)
  by_cases hlt : i < vs.length
  · refine .inr ⟨⟨vs, vs[i], q, by simp [hlt]⟩, Pv G1 (i + 1), fun σ2 H2 p' => ⟨vs.length - (i + 1), by omega, rfl, hlt, p'⟩, fun x H2 y => ?_⟩
    obtain ⟨T, x', rfl, hT, rfl, y⟩ := y
    have hx := y vs q
    refine ⟨T, _, rfl, st_of upd_same, rfl, _, _, rfl, _, _, rfl, rfl, ?_⟩
    obtain ⟨r, hr, hx'⟩ := h2.getV hx
    rw [List.getElem?_map] at hr
    cases q2 : l[i]? with
    | none => rw [q2] at hr; cases hr
    | some b =>
      rw [q2] at hr
      have hr' : ρ b = r := Option.some.inj hr
      subst hr'
      exact hs G1 i b x' σ' _ g1.g q2 hx' (hm G1 i σ' H' _ p (Ex.new hT))
  · have e : i = vs.length := by omega
    subst e
    exact .inl ⟨⟨vs, q, Nat.le_refl _⟩, hd G1 σ' H' g1.g (el ▸ p)⟩
end
end Mu

namespace Mu
open PySem L2 Evl
section
variable {σ : L2.St} {G H : Hp} {te tl ta : TE} {t : TT} {K : PySem.W.Frag} {α : Type} {j : Nat} {vs : List Nat}
theorem yes_ite {σ : L2.St} {H : Hp} {A B : Hp → Prop} (h : A H) : tYes σ H (fun b H3 => if b = true then A H3 else B H3) := by
  show (if true = true then A H else B H)
  rw [if_pos rfl]
  exact h
theorem filter_yes {l : List α} {rr : α → Rp} : (l.filter fun _ => true).map rr = l.map rr := by
  congr 1
  exact List.filter_eq_self.mpr fun _ _ => rfl
theorem en_lcL0 (l : List α) (ρ : α → Rp) (rr : α → Rp) (h : EvD tl σ G (rL K (l.map ρ))) (hz : l.length ≤ 40000) (hw : ∀ x, wipe ((wipe σ vs).set j (some x)) vs = wipe σ vs)
    (he : ∀ a x G1, a ∈ l → Ex G G1 → (ρ a).p x G1 → EvD te ((wipe σ vs).set j (some x)) G1 (rr a)) : EvN (tLc (iList K tl) (gName j) tYes te vs) σ G (l.map rr) :=
  en_is (en_lcL l ρ (fun _ => true) rr h hz hw (fun _ _ _ _ _ _ => yes_T rfl) fun a x G1 hm _ e hx => he a x G1 hm e hx) filter_yes
theorem en_lcT0 (l : List α) (ρ : α → Rp) (rr : α → Rp) (h : EvD tl σ G (rT K (l.map ρ))) (hz : l.length ≤ 40000) (hw : ∀ x, wipe ((wipe σ vs).set j (some x)) vs = wipe σ vs)
    (he : ∀ a x G1, a ∈ l → Ex G G1 → (ρ a).p x G1 → EvD te ((wipe σ vs).set j (some x)) G1 (rr a)) : EvN (tLc (iTup K tl) (gName j) tYes te vs) σ G (l.map rr) :=
  en_is (en_lcT l ρ (fun _ => true) rr h hz hw (fun _ _ _ _ _ _ => yes_T rfl) fun a x G1 hm _ e hx => he a x G1 hm e hx) filter_yes
theorem en_lcR0 {ta : TA} (n : Nat) (rr : Nat → Rp) (h : EvA ta σ G [.int (n : Int)]) (hz : n ≤ 40000) (hw : ∀ x, wipe ((wipe σ vs).set j (some x)) vs = wipe σ vs)
    (he : ∀ (a : Nat) G1, a < n → Ex G G1 → EvD te ((wipe σ vs).set j (some (.int (a : Int)))) G1 (rr a)) : EvN (tLc (iRng1 ta) (gName j) tYes te vs) σ G ((List.range n).map rr) :=
  en_is (en_lcR n (fun _ => true) rr h hz hw (fun _ _ _ _ => yes_T rfl) fun a G1 hm _ e => he a G1 hm e) filter_yes
/-- [e for a in range(n) for b in xs(a)] -/
theorem en_lc2R {ta : TA} {te1 tl1 : TE} {j1 : Nat} {vs vs1 : List Nat} (n : Nat) (l : Nat → List α) (ρ : α → Rp) (rr : Nat → α → Rp) (h : EvA ta σ G [.int (n : Int)]) (hz : n ≤ 100) (hz1 : ∀ a, a < n → (l a).length ≤ 100)
    (hw : ∀ x, wipe ((wipe σ vs).set j (some x)) vs = wipe σ vs) (hw1 : ∀ x y, wipe ((wipe ((wipe σ vs).set j (some x)) vs1).set j1 (some y)) vs1 = wipe ((wipe σ vs).set j (some x)) vs1)
    (hl : ∀ (a : Nat) G1, a < n → Ex G G1 → EvD tl1 ((wipe σ vs).set j (some (.int (a : Int)))) G1 (rL K ((l a).map ρ)))
    (he : ∀ (a : Nat) (b : α) x G1, a < n → b ∈ l a → Ex G G1 → (ρ b).p x G1 → EvD te1 ((wipe ((wipe σ vs).set j (some (.int (a : Int)))) vs1).set j1 (some x)) G1 (rr a b)) :
    EvN (tLc2 (iRng1 ta) (gName j) tYes (iList K tl1) (gName j1) tYes te1 vs vs1) σ G ((List.range n).flatMap fun a => (l a).map (rr a)) := fun H0 e Q q => h H0 e _ fun H1 e1 => by
  refine ⟨(n : Int), rfl, by omega, by omega, fun Dl hD => ?_⟩
  have g1 := (Gr.refl e).more e1
  rw [Int.toNat_natCast]
  have hsz : ∀ i, ((List.range i).flatMap fun a => (l a).map (rr a)).length ≤ i * 100 ∨ n < i := fun i => by
    induction i with
    | zero => exact .inl (by simp)
    | succ i ih =>
      rcases ih with ih | ih
      · rcases Nat.lt_or_ge i n with z | z
        · refine .inl ?_
          rw [List.range_succ, List.flatMap_append, List.length_append]
          have := hz1 i z
          rw [List.flatMap_cons, List.flatMap_nil, List.append_nil, List.length_map]
          omega
        · exact .inr (by omega)
      · exact .inr (by omega)
  refine ⟨fun i m H' => m = n - i ∧ i ≤ n ∧ Cm G H1 Dl ((List.range i).flatMap fun a => (l a).map (rr a)) H', ⟨n, by simp, Nat.zero_le _, cm_start g1.i hD⟩, ?_⟩
  rintro i m H' ⟨rfl, hi, p⟩
  by_cases hlt : i < n
  · refine .inr ⟨hlt, fun H' => Cm G H1 Dl ((List.range (i + 1)).flatMap fun a => (l a).map (rr a)) H', fun H2 p' => ⟨n - (i + 1), by omega, rfl, hlt, p'⟩, fun x H2 y => ?_⟩
    obtain ⟨ex, ey⟩ := y
    subst ex ey
    rw [show (0 : Int) + (i : Int) = (i : Int) from Int.zero_add _]
    refine ⟨hw _, ?_⟩
    refine yes_ite ?_
    obtain ⟨p1, G', ws, g, hG, hD', ra⟩ := p
    refine hl i G' hlt g.g _ g.i _ fun v G3 H3 g3 ⟨a, xs, hv, h1, h2⟩ => ?_
    subst hv
    have el : xs.length = (l i).length := by rw [h2.len, List.length_map]
    refine ⟨a, rfl, ⟨xs, sq_of (g3.i _ _ h1)⟩, fun k m' H' => m' = xs.length - k ∧ k ≤ xs.length ∧ Ex G3 H' ∧ Cm G H1 Dl (((List.range i).flatMap fun a => (l a).map (rr a)) ++ ((l i).take k).map (rr i)) H' ∧ ∃ G4 ws, Gr G H1 G4 H' ∧ Ex G3 G4 ∧ G4 Dl = none ∧ H' Dl = some (.lst ws) ∧ RA G4 ws (((List.range i).flatMap fun a => (l a).map (rr a)) ++ ((l i).take k).map (rr i)), ⟨xs.length, by simp, Nat.zero_le _, g3.i, ?_, ?_⟩, ?_⟩
    · rw [List.take_zero, List.map_nil, List.append_nil]
      exact ⟨p1, G3, ws, g.trans g3, g3.n _ _ hD' hG, g3.h _ _ hD', ra.mono g3.g⟩
    · rw [List.take_zero, List.map_nil, List.append_nil]
      exact ⟨G3, ws, g.trans g3, Ex.refl _, g3.n _ _ hD' hG, g3.h _ _ hD', ra.mono g3.g⟩
    · rintro k m' H5 ⟨rfl, hk, e5, _, G4, ws4, g4, e34, hG4, hD4, ra4⟩
      by_cases hlk : k < xs.length
      · refine .inr ⟨⟨xs, xs[k], sq_of (e5 _ _ h1), by simp [hlk]⟩, fun H' => Ex G3 H' ∧ Cm G H1 Dl (((List.range i).flatMap fun a => (l a).map (rr a)) ++ ((l i).take (k + 1)).map (rr i)) H' ∧ ∃ G4 ws, Gr G H1 G4 H' ∧ Ex G3 G4 ∧ G4 Dl = none ∧ H' Dl = some (.lst ws) ∧ RA G4 ws (((List.range i).flatMap fun a => (l a).map (rr a)) ++ ((l i).take (k + 1)).map (rr i)),
          fun H6 p' => ⟨xs.length - (k + 1), by omega, rfl, hlk, p'⟩, fun x H6 y => ?_⟩
        obtain ⟨ey, y⟩ := y
        subst ey
        have hx := y xs (sq_of (e5 _ _ h1))
        obtain ⟨r, hr, hx'⟩ := h2.getV hx
        rw [List.getElem?_map] at hr
        cases q2 : (l i)[k]? with
        | none => rw [q2] at hr; cases hr
        | some b =>
          rw [q2] at hr
          have hr' : ρ b = r := Option.some.inj hr
          subst hr'
          refine ⟨hw1 _ _, ?_⟩
          refine yes_ite ?_
          refine (he i b x G4 hlt (List.mem_of_getElem? q2) g4.g ((ρ b).mono e34 hx')) _ g4.i _ fun y G6 H6 g6 hy => ?_
          have hlen : (((List.range i).flatMap fun a => (l a).map (rr a)) ++ ((l i).take k).map (rr i)).length < 50000 := by
            have z1 := hsz i
            have z2 := hz1 i hlt
            rw [List.length_append, List.length_map, List.length_take]
            omega
          have gg := g4.trans g6
          have n6 : G6 Dl = none := g6.n _ _ hD4 hG4
          have ee : (((List.range i).flatMap fun a => (l a).map (rr a)) ++ ((l i).take k).map (rr i)) ++ [rr i b] = ((List.range i).flatMap fun a => (l a).map (rr a)) ++ ((l i).take (k + 1)).map (rr i) := by
            rw [List.take_add_one, q2, List.append_assoc, List.map_append]
            rfl
          have g7 : Gr G H1 G6 (upd H6 Dl (.lst (ws4 ++ [y]))) := ⟨gg.g, Ex.mut gg.h p1, Ex.mut gg.i n6, gg.n⟩
          have r7 : RA G6 (ws4 ++ [y]) (((List.range i).flatMap fun a => (l a).map (rr a)) ++ ((l i).take (k + 1)).map (rr i)) := ee ▸ (ra4.mono g6.g).snoc hy
          exact ⟨ws4, g6.h _ _ hD4, sz_lt (by rw [ra4.len]; omega), (e34.trans g6.g).trans g7.i, ⟨p1, G6, _, g7, n6, upd_same, r7⟩, G6, _, g7, e34.trans g6.g, n6, upd_same, r7⟩
      · have ek : k = xs.length := by omega
        subst ek
        refine .inl ⟨⟨xs, sq_of (e5 _ _ h1), Nat.le_refl _⟩, p1, G4, ws4, g4, hG4, hD4, ?_⟩
        rw [List.range_succ, List.flatMap_append]
        rw [el, List.take_length] at ra4
        simpa using ra4
  · have ei : i = n := by omega
    subst ei
    obtain ⟨p1, G', ws, g, hG, hD', ra⟩ := p
    exact .inl ⟨Nat.le_refl _, q Dl ws G' H' (g1.trans g) (fresh_back e1 p1) hG hD' ra⟩
end
/-! ### tables -/
def pairsN (m : List Nat) : List (Nat × Nat) := (List.range m.length).flatMap fun a => (bitsN (m.getD a 0)).map fun b => (a, b)
section
variable (K : PySem.W.Frag) (C : Addr)
def rP (p : Nat × Nat) : Rp := rT K [nI p.1, nI p.2]
def tabF (n : Nat) (t c : Addr) : List (Str × V) := [("size", .int (n : Int)), ("masks", .ref t), ("cells", .ref c)]
def rTab (m : List Nat) : Rp := ⟨fun v H => ∃ a dx t c, v = .ref a ∧ H a = some (.ins C dx (tabF m.length t c)) ∧ (rTn K m).p (.ref t) H ∧ (rT K ((pairsN m).map (rP K))).p (.ref c) H,
  fun e ⟨a, dx, t, c, h1, h2, h3, h4⟩ => ⟨a, dx, t, c, h1, e _ _ h2, (rTn K _).mono e h3, (rT K _).mono e h4⟩⟩
/-- Table.__init__: the rows are written into the new instance -/
def spTab : Sp := fun vs H Q _ => ∃ p dx x G rows, vs = [.ref p, x] ∧ H p = some (.ins C dx []) ∧ Ex G H ∧ G p = none ∧ (rLL K rows).p x G ∧ 1 ≤ rows.length ∧ rows.length ≤ 6 ∧ (∀ r ∈ rows, r.length ≤ 100 ∧ ∀ w ∈ r, w < rows.length) ∧
  ∀ H2 G2 t c, Ex G G2 → (∀ a o, H a = some o → a ≠ p → H2 a = some o) → Ex G2 H2 → (∀ a o, H a = some o → G a = none → G2 a = none) → H2 p = some (.ins C dx (tabF rows.length t c)) → (rTn K (rows.map maskN)).p (.ref t) G2 → (rT K ((pairsN (rows.map maskN)).map (rP K))).p (.ref c) G2 → Q .non H2
end
section
variable {K : PySem.W.Frag} {C : Addr} {σ : L2.St} {G H : Hp} {ta te : TE} {m : List Nat}
theorem ed_tab {rows : List (List Nat)} {E : XK} (h : EvD ta σ G (rLL K rows)) (h1 : 1 ≤ rows.length) (h6 : rows.length ≤ 6) (hr : ∀ r ∈ rows, r.length ≤ 100 ∧ ∀ w ∈ r, w < rows.length) :
    EvD (tMake C (spTab K C) [] E (tCons ta tNil)) σ G (rTab K C (rows.map maskN)) := fun H e Q q => h H e _ fun v G2 H2 g hv => fun x dx hx hdx hne => by
  have ed : Ex H2 (upd (upd H2 dx (.own x)) x (.ins C dx [])) := (Ex.new hdx).trans (Ex.new (by rw [upd_ne (Ne.symm hne)]; exact hx))
  refine ⟨x, dx, v, G2, rows, rfl, upd_same, g.i.trans ed, fresh_back g.i hx, hv, h1, h6, hr, fun H3 G3 t c e3 k3 i3 n3 p3 t3 c3 => ⟨rfl, ?_⟩⟩
  have hx2 : (upd (upd H2 dx (.own x)) x (.ins C dx [])) x = some (.ins C dx []) := upd_same
  have gx : G3 x = none := n3 x _ hx2 (fresh_back g.i hx)
  have len : (rows.map maskN).length = rows.length := List.length_map _
  refine q (.ref x) (upd G3 x (.ins C dx (tabF rows.length t c))) H3 ⟨(g.g.trans e3).trans (Ex.new gx), fun a o z => ?_, fun a o z => ?_, fun a o z y => ?_⟩ ⟨x, dx, t, c, rfl, by rw [len]; exact upd_same, (rTn K _).mono (Ex.new gx) t3, (rT K _).mono (Ex.new gx) c3⟩
  · have z2 := g.h a o z
    exact k3 a o (ed a o z2) (ne_of_none z2 hx)
  · by_cases c1 : a = x
    · subst c1
      rw [upd_same] at z
      rw [p3]; exact z
    · rw [upd_ne c1] at z
      exact i3 a o z
  · have z2 := g.h a o z
    rw [upd_ne (ne_of_none z2 hx)]
    exact n3 a o (ed a o z2) (g.n a o z y)
theorem tabF_masks {n : Nat} {t c : Addr} : (tabF n t c).lookup ("masks" : Str) = some (.ref t) := by
  have h1 : (("masks" : Str) == ("size" : Str)) = false := by decide +kernel
  unfold tabF
  simp [List.lookup, h1]
theorem tabF_cells {n : Nat} {t c : Addr} : (tabF n t c).lookup ("cells" : Str) = some (.ref c) := by
  have h1 : (("cells" : Str) == ("size" : Str)) = false := by decide +kernel
  have h2 : (("cells" : Str) == ("masks" : Str)) = false := by decide +kernel
  unfold tabF
  simp [List.lookup, h1, h2]
theorem tab_size {x : V} (h : (rTab K C m).p x G) : ∃ a dx fs, x = .ref a ∧ G a = some (.ins C dx fs) ∧ fs.lookup ("size" : Str) = some (V.int (m.length : Int)) := by
  obtain ⟨a, dx, t, c, h1, h2, _⟩ := h
  exact ⟨a, dx, _, h1, h2, rfl⟩
theorem ev_size (h : EvD ta σ G (rTab K C m)) (hc : Cls K C) (hn : NoAttr K C "size") : Ev (tFld K ta "size") σ G (.int (m.length : Int)) := fun H e Q q => h H e _ fun v G2 H2 g hv => by
  obtain ⟨a, dx, t, c, rfl, h2, h3, h4⟩ := hv
  exact ⟨a, C, dx, _, _, rfl, g.i _ _ h2, hc, hn, rfl, q H2 g.h⟩
theorem ed_masks (h : EvD ta σ G (rTab K C m)) (hc : Cls K C) (hn : NoAttr K C "masks") : EvD (tFld K ta "masks") σ G (rTn K m) := fun H e Q q => h H e _ fun v G2 H2 g hv => by
  obtain ⟨a, dx, t, c, rfl, h2, h3, h4⟩ := hv
  exact ⟨a, C, dx, _, .ref t, rfl, g.i _ _ h2, hc, hn, tabF_masks, q _ G2 H2 g h3⟩
theorem ed_cells (h : EvD ta σ G (rTab K C m)) (hc : Cls K C) (hn : NoAttr K C "cells") : EvD (tFld K ta "cells") σ G (rT K ((pairsN m).map (rP K))) := fun H e Q q => h H e _ fun v G2 H2 g hv => by
  obtain ⟨a, dx, t, c, rfl, h2, h3, h4⟩ := hv
  exact ⟨a, C, dx, _, .ref c, rfl, g.i _ _ h2, hc, hn, tabF_cells, q _ G2 H2 g h4⟩
theorem tabF_no {n : Nat} {t c : Addr} {f : Str} (h : (f == "size" || (f == "masks" || f == "cells")) = false) : (tabF n t c).lookup f = none := by
  unfold tabF
  simp only [Bool.or_eq_false_iff] at h
  simp [List.lookup, h.1, h.2.1, h.2.2]
end
section
variable {K : PySem.W.Frag} {C : Addr} {σ : L2.St} {G H : Hp} {ta tv : TE} {f : Str} {D : Ends} {r : Rp}
/-- self.f = e, self a new instance -/
theorem s_fld {p dx : Addr} {fs : List (Str × V)} (e : Ex G H) (hp : H p = some (.ins C dx fs)) (gp : G p = none) (hv : EvD tv σ G r) (ha : Ev ta σ G (.ref p)) (hc : Cls K C) (hn : NoAttr K C f) (hl : fs.length < 1000)
    (k : ∀ y G2 H2, Ex G G2 → (∀ a o, H a = some o → a ≠ p → H2 a = some o) → Ex G2 H2 → (∀ a o, H a = some o → G a = none → G2 a = none) → G2 p = none → r.p y G2 → H2 p = some (.ins C dx (putF f y fs)) → D.nx σ H2) : sFld K ta tv f D σ H :=
  hv H e _ fun y G2 H2 g hy => ha H2 (g.g.trans g.i) _ fun H3 e3 => by
    have g2 : G2 p = none := g.n p _ hp gp
    refine ⟨p, C, dx, fs, rfl, e3 _ _ (g.h _ _ hp), hc, hn, hl, k y G2 _ g.g (fun a o z n => ?_) (Ex.mut (g.i.trans e3) g2) g.n g2 hy upd_same⟩
    rw [upd_ne n]
    exact e3 a o (g.h a o z)
def off (p : Addr) (G : Hp) : Hp := fun a => if a = p then none else G a
theorem off_self {p : Addr} {G : Hp} : off p G p = none := by unfold off; rw [if_pos rfl]
theorem off_ne {p a : Addr} {G : Hp} (h : a ≠ p) : off p G a = G a := by unfold off; rw [if_neg h]
theorem ex_off {p : Addr} {G : Hp} : Ex (off p G) G := fun a o h => by
  by_cases c : a = p
  · subst c; rw [off_self] at h; cases h
  · rw [off_ne c] at h; exact h
theorem ex_in_off {p : Addr} {G G' : Hp} (e : Ex G G') (h : G p = none) : Ex G (off p G') := fun a o z => by
  rw [off_ne (ne_of_none z h)]; exact e a o z
theorem ex_off2 {p : Addr} {G G' : Hp} (e : Ex G G') : Ex (off p G) (off p G') := fun a o h => by
  by_cases c : a = p
  · subst c; rw [off_self] at h; cases h
  · rw [off_ne c] at h ⊢; exact e a o h
theorem ex_add {p : Addr} {G H : Hp} {o : HO} (e : Ex G H) (h : H p = some o) : Ex (upd G p o) H := fun a u z => by
  by_cases c : a = p
  · subst c; rw [upd_same] at z; rw [h]; exact z
  · rw [upd_ne c] at z; exact e a u z
/-- the value may read self's own attributes -/
theorem s_fldS {p dx : Addr} {fs : List (Str × V)} (e : Ex G H) (hp : H p = some (.ins C dx fs)) (gp : G p = none) (hv : EvD tv σ (upd G p (.ins C dx fs)) r) (hoff : ∀ y G2, G2 p = some (.ins C dx fs) → r.p y G2 → r.p y (off p G2)) (ha : Ev ta σ G (.ref p)) (hc : Cls K C) (hn : NoAttr K C f) (hl : fs.length < 1000)
    (k : ∀ y G2 H2, Ex G G2 → (∀ a o, H a = some o → a ≠ p → H2 a = some o) → Ex G2 H2 → (∀ a o, H a = some o → G a = none → G2 a = none) → G2 p = none → r.p y G2 → H2 p = some (.ins C dx (putF f y fs)) → D.nx σ H2) : sFld K ta tv f D σ H :=
  hv H (ex_add e hp) _ fun y G2 H2 g hy => ha H2 (e.trans g.h) _ fun H3 e3 => by
    have g2 : G2 p = some (.ins C dx fs) := g.g p _ upd_same
    refine ⟨p, C, dx, fs, rfl, e3 _ _ (g.h _ _ hp), hc, hn, hl, k y (off p G2) _ (ex_in_off ((Ex.new gp).trans g.g) gp) (fun a o z n => ?_) (Ex.mut (ex_off.trans (g.i.trans e3)) off_self) (fun a o z y => ?_) off_self (hoff y G2 g2 hy) upd_same⟩
    · rw [upd_ne n]
      exact e3 a o (g.h a o z)
    · by_cases c : a = p
      · subst c; exact off_self
      · rw [off_ne c]
        exact g.n a o z (by rw [upd_ne c]; exact y)
theorem rT_off {p C' dx : Addr} {fs : List (Str × V)} {rs : List Rp} {y : V} {G2 : Hp} (h : G2 p = some (.ins C' dx fs)) (hr : ∀ r ∈ rs, ∀ v, r.p v G2 → r.p v (off p G2)) (q : (rT K rs).p y G2) : (rT K rs).p y (off p G2) := by
  obtain ⟨a, vs, rfl, h1, h2⟩ := q
  refine ⟨a, vs, rfl, ?_, ?_⟩
  · rcases h1 with (h1 | ⟨o, h1⟩) | h1
    · exact .inl (.inl (by rw [off_ne (ne_of h1 h (by intro z; cases z))]; exact h1))
    · exact .inl (.inr ⟨o, by rw [off_ne (ne_of h1 h (by intro z; cases z))]; exact h1⟩)
    · exact .inr h1
  · clear h1
    induction h2 with
    | nil => exact .nil
    | cons a t ih => exact .cons (hr _ List.mem_cons_self _ a) (ih fun r hm v => hr r (List.mem_cons_of_mem _ hm) v)
theorem rP_off {p C' dx : Addr} {fs : List (Str × V)} {l : List (Nat × Nat)} {y : V} {G2 : Hp} (h : G2 p = some (.ins C' dx fs)) (q : (rT K (l.map (rP K))).p y G2) : (rT K (l.map (rP K))).p y (off p G2) := by
  refine rT_off h (fun r hr v hv => ?_) q
  obtain ⟨z, _, rfl⟩ := List.mem_map.mp hr
  refine rT_off h (fun r hr v hv => ?_) hv
  simp at hr
  rcases hr with rfl | rfl <;> exact hv
end
section
variable {K : PySem.W.Frag} {C : Addr} {σ : L2.St} {G H : Hp} {ta tb : TE} {m : List Nat} {f : Str} {sp : Sp} {E : XK}
theorem en_meth {rs : List Rp} (h : EvD ta σ G (rTab K C m)) (hf : (f == "size" || (f == "masks" || f == "cells")) = false) (hs : ∀ v G2, Ex G G2 → (rTab K C m).p v G2 → SpN sp [v] G2 rs) : EvN (tMeth C f sp [] E ta tNil) σ G rs := fun H e Q q =>
  h H e _ fun v G2 H2 g hv => by
    obtain ⟨a, dx, t, c, rfl, h2, h3⟩ := id hv
    exact ⟨a, dx, _, rfl, g.i _ _ h2, tabF_no hf, hs _ G2 g.g hv H2 g.i Q (fun p ws G3 H3 g3 hp gp h4 ra => q p ws G3 H3 (g.trans g3) (fresh_back g.h hp) gp h4 ra) E⟩
theorem ed_meth {r : Rp} (h : EvD ta σ G (rTab K C m)) (hf : (f == "size" || (f == "masks" || f == "cells")) = false) (hs : ∀ v G2, Ex G G2 → (rTab K C m).p v G2 → SpD sp [v] G2 r) : EvD (tMeth C f sp [] E ta tNil) σ G r := fun H e Q q =>
  h H e _ fun v G2 H2 g hv => by
    obtain ⟨a, dx, t, c, rfl, h2, h3⟩ := id hv
    exact ⟨a, dx, _, rfl, g.i _ _ h2, tabF_no hf, hs _ G2 g.g hv H2 g.i Q (fun v G3 H3 g3 hv3 => q v G3 H3 (g.trans g3) hv3) E⟩
/-- one OP other, both tables -/
theorem ed_own2 {r : Rp} {m' : List Nat} (ha : EvD ta σ G (rTab K C m)) (hb : EvD tb σ G (rTab K C m')) (hs : ∀ x y G2, Ex G G2 → (rTab K C m).p x G2 → (rTab K C m').p y G2 → SpD sp [x, y] G2 r) : EvD (tOp (rOwn2 C sp E) ta tb) σ G r :=
  ed_op ha hb fun x y G2 H e1 e2 hx hy Q q => by
    obtain ⟨a, dx, t, c, rfl, h2, _⟩ := id hx
    obtain ⟨a', dx', t', c', rfl, h2', _⟩ := id hy
    exact ⟨a, a', dx, _, dx', _, rfl, rfl, e2 _ _ h2, e2 _ _ h2', hs _ _ G2 e1 hx hy H e2 Q q E⟩
end
section
variable {K : PySem.W.Frag} {C : Addr} {σ : L2.St} {G H : Hp} {te tl : TE} {E : XK}
theorem masks_bits (m : List Nat) : (m.map bitsN).map maskN = m := by
  rw [List.map_map]
  exact (List.map_congr_left fun a _ => maskN_bits a).trans (List.map_id _)
theorem rows_ok {n : Nat} {m : List Nat} (w : Wf n m) (h6 : n ≤ 6) : ∀ r ∈ m.map bitsN, r.length ≤ 100 ∧ ∀ x ∈ r, x < (m.map bitsN).length := fun r hr => by
  obtain ⟨a, ha, rfl⟩ := List.mem_map.mp hr
  refine ⟨Nat.le_trans (bits_len (w.lt a ha)) (by omega), fun x hx => ?_⟩
  rw [List.length_map, w.len]
  exact bit_lt (w.lt a ha) (mem_bits.mp hx)
/-- Table(rows), the rows of masks -/
theorem ed_tabRows {n : Nat} {m : List Nat} (h : EvD te σ G (rLL K (m.map bitsN))) (w : Wf n m) (h1 : 1 ≤ n) (h6 : n ≤ 6) : EvD (tMake C (spTab K C) [] E (tCons te tNil)) σ G (rTab K C m) :=
  ed_is (ed_tab h (by rw [List.length_map, w.len]; exact h1) (by rw [List.length_map, w.len]; exact h6) (rows_ok w h6)) (by rw [masks_bits])
/-- [list(row) for row in rows] -/
theorem ed_copy {rows : List (List Nat)} {j : Nat} (h : EvD tl σ G (rLL K rows)) (hz : rows.length ≤ 1000) (hw : ∀ x, wipe ((wipe σ [j]).set j (some x)) [j] = wipe σ [j]) (hg : ∀ x, ((wipe σ [j]).set j (some x))[j]? = some (some x)) : EvD (tLc (iList K tl) (gName j) tYes (tCB (rListS K) (tCons (tVar j) tNil)) [j]) σ G (rLL K rows) :=
  EvN.d (en_lcL0 rows (rLn K) (rLn K) h (by omega) hw fun r y G1 hr e1 hy => EvN.d (en_listL (ed_var (hg y) hy)))
end
section
variable {K : PySem.W.Frag} {C : Addr} {σ : L2.St} {G H : Hp} {ta : TE} {m : List Nat} {sp : Sp} {E : XK}
theorem ed_own1 {r : Rp} (ha : EvD ta σ G (rTab K C m)) (hs : ∀ x G2, Ex G G2 → (rTab K C m).p x G2 → SpD sp [x] G2 r) : EvD (tUn (rOwn1 C sp E) ta) σ G r := fun H e Q q =>
  ha H e _ fun v G2 H2 g hv => by
    obtain ⟨a, dx, t, c, rfl, h2, _⟩ := id hv
    exact ⟨a, dx, _, rfl, g.i _ _ h2, hs _ G2 g.g hv H2 g.i Q (fun v G3 H3 g3 hv3 => q v G3 H3 (g.trans g3) hv3) E⟩
theorem ru_inv {i : Int} {H : Hp} : RU (rU fun i => .int (Builtin.bitNot i)) (.int i) H (.int (Builtin.bitNot i)) := fun H1 _ _ q => ⟨i, rfl, q H1 (Ex.refl H1)⟩
end
end Mu

namespace Mu
open PySem L2 Evl
/-! ### isinstance -/
structure IsC (K : PySem.W.Frag) (C : Addr) : Prop where
  c : Cls K C
  a : PySem.W.findIn K (.ref C) "__class__" = some (some (.builtin "object.__class__"))
  g : PySem.W.specialIn K (.builtin "object.__class__") "__get__" = some (some (.builtin "getset_descriptor.__get__"))
  t : PySem.W.takesIn K (.builtin "object.__class__") = some true
  m : PySem.W.mroIn K C (.type "object") = some true
def isCB (K : PySem.W.Frag) (C : Addr) : Bool := He.eqO (PySem.W.findIn K (.ref C) "__class__") (some (some (.builtin "object.__class__"))) && (He.eqO (PySem.W.specialIn K (.builtin "object.__class__") "__get__") (some (some (.builtin "getset_descriptor.__get__"))) &&
  (decide (PySem.W.takesIn K (.builtin "object.__class__") = some true) && decide (PySem.W.mroIn K C (.type "object") = some true)))
theorem isCB_ok {K : PySem.W.Frag} {C : Addr} (c : Cls K C) (h : isCB K C = true) : IsC K C := by
  obtain ⟨h1, h⟩ := He.ba h
  obtain ⟨h2, h⟩ := He.ba h
  obtain ⟨h3, h4⟩ := He.ba h
  exact ⟨c, He.eqO_ok h1, He.eqO_ok h2, of_decide_eq_true h3, of_decide_eq_true h4⟩
section
variable {K : PySem.W.Frag} {C : Addr} {σ : L2.St} {G H : Hp} {ta te : TE} {m : List Nat}
theorem ev_isi {r : Rp} {c : V} {u : Value} {b : Bool} (h : EvD ta σ G r) (hc : ClsV c u) (ht : ∀ v H, r.p v H → ∃ t, TyX K H v t ∧ PySem.W.kitOne K t u = some b) : Ev (tCB (rIsi K) (tCons ta (tCons (tC c) tNil))) σ G (.bl b) := fun H e Q q =>
  h H e _ fun v G2 H2 g hv => by
    obtain ⟨t, h1, h2⟩ := ht v H2 (r.mono g.i hv)
    exact ⟨v, c, t, u, b, rfl, hc, h1, h2, q H2 g.h⟩
theorem kit_same {t : Value} : PySem.W.kitOne K t t = some true := by unfold PySem.W.kitOne; simp
theorem ty_list {rs : List Rp} {v : V} (h : (rL K rs).p v H) : TyX K H v (.type "list") := by
  obtain ⟨a, vs, rfl, h1, _⟩ := h
  exact .base (.lst h1)
theorem ty_tup {rs : List Rp} {v : V} (h : (rT K rs).p v H) : TyX K H v (.type "tuple") := by
  obtain ⟨a, vs, rfl, h1, _⟩ := h
  rcases h1 with (h1 | ⟨o, h1⟩) | ⟨o, its, n, h1, h2, _⟩
  · exact .base (.tup h1)
  · exact .fTuple h1
  · exact .kTuple h1 h2
theorem ty_tab (c : IsC K C) {v : V} (h : (rTab K C m).p v H) : TyX K H v (.ref C) := by
  obtain ⟨a, dx, t, cc, rfl, h2, _⟩ := h
  exact .base (.ins h2 c.c c.a c.g c.t c.m)
theorem is_int {i : Int} (h : Ev ta σ G (.int i)) : Ev (tCB (rIsi K) (tCons ta (tCons (tC (.ty "int")) tNil))) σ G (.bl true) := ev_isi (Ev.d h) (.ty _) fun v H hv => ⟨_, by obtain rfl : v = V.int i := hv; exact .base (.int i), kit_same⟩
theorem is_bool_int {i : Int} (h : Ev ta σ G (.int i)) : Ev (tCB (rIsi K) (tCons ta (tCons (tC (.ty "bool")) tNil))) σ G (.bl false) := ev_isi (Ev.d h) (.ty _) fun v H hv => ⟨_, by obtain rfl : v = V.int i := hv; exact .base (.int i), kit_ty (by decide +kernel)⟩
theorem is_list {rs : List Rp} (h : EvD ta σ G (rL K rs)) : Ev (tCB (rIsi K) (tCons ta (tCons (tC (.ty "list")) tNil))) σ G (.bl true) := ev_isi h (.ty _) fun v H hv => ⟨_, ty_list hv, kit_same⟩
theorem is_tup {rs : List Rp} (h : EvD ta σ G (rT K rs)) : Ev (tCB (rIsi K) (tCons ta (tCons (tC (.ty "tuple")) tNil))) σ G (.bl true) := ev_isi h (.ty _) fun v H hv => ⟨_, ty_tup hv, kit_same⟩
theorem is_tab (c : IsC K C) (h : EvD ta σ G (rTab K C m)) : Ev (tCB (rIsi K) (tCons ta (tCons (tC (.ref C)) tNil))) σ G (.bl true) := ev_isi h (.own _) fun v H hv => ⟨_, ty_tab c hv, kit_same⟩
/-! ### == of data -/
/-- the data that a value stands for -/
def AsD (K : PySem.W.Frag) (r : Rp) (d : PyData) : Prop := ∀ v H, r.p v H → Dp K H v d
theorem asd_int (i : Int) : AsD K (rI i) (.int i) := fun v H h => by obtain rfl : v = V.int i := h; exact .int i
theorem asd_str (z : Str) : AsD K (rS z) (.str z) := fun v H h => by obtain rfl : v = V.str z := h; exact .str z
theorem asd_bl (b : Bool) : AsD K (rB b) (.bool b) := fun v H h => by obtain rfl : v = V.bl b := h; exact .bl b
theorem asd_non : AsD K (rV .non) .none := fun v H h => by obtain rfl : v = V.non := h; exact .non
theorem asd_all {H : Hp} {α : Type} {ρ : α → Rp} {δ : α → PyData} (h : ∀ a, AsD K (ρ a) (δ a)) : ∀ {l : List α} {vs : List V}, RA H vs (l.map ρ) → DpAll K H vs (l.map δ)
  | [], _, .nil => .nil
  | a :: r, _, .cons q t => .cons (h a _ _ q) (asd_all h t)
theorem asd_list {α : Type} {ρ : α → Rp} {δ : α → PyData} (h : ∀ a, AsD K (ρ a) (δ a)) (l : List α) : AsD K (rL K (l.map ρ)) (.list (l.map δ)) := fun v H q => by
  obtain ⟨a, vs, rfl, h1, h2⟩ := q
  exact .lst (sq_of h1) (asd_all h h2)
theorem asd_tup {α : Type} {ρ : α → Rp} {δ : α → PyData} (h : ∀ a, AsD K (ρ a) (δ a)) (l : List α) : AsD K (rT K (l.map ρ)) (.tuple (l.map δ)) := fun v H q => by
  obtain ⟨a, vs, rfl, h1, h2⟩ := q
  exact .tup h1 (asd_all h h2)
abbrev dN (n : Nat) : PyData := .int (n : Int)
abbrev dLn (l : List Nat) : PyData := .list (l.map dN)
abbrev dTn (l : List Nat) : PyData := .tuple (l.map dN)
abbrev dLL (l : List (List Nat)) : PyData := .list (l.map dLn)
abbrev dP (p : Nat × Nat) : PyData := .tuple [.int (p.1 : Int), .int (p.2 : Int)]
theorem asd_ln (l : List Nat) : AsD K (rLn K l) (dLn l) := asd_list (fun a => asd_int _) l
theorem asd_tn (l : List Nat) : AsD K (rTn K l) (dTn l) := asd_tup (fun a => asd_int _) l
theorem asd_ll (l : List (List Nat)) : AsD K (rLL K l) (dLL l) := asd_list asd_ln l
theorem asd_p (p : Nat × Nat) : AsD K (rP K p) (dP p) := fun v H q => by
  obtain ⟨a, vs, rfl, h1, h2⟩ := q
  obtain ⟨x, y, rfl, hx, hy⟩ := ra2 h2
  obtain rfl : x = V.int (p.1 : Int) := hx
  obtain rfl : y = V.int (p.2 : Int) := hy
  exact .tup h1 (.cons (.int _) (.cons (.int _) .nil))
theorem ev_eqD {r1 r2 : Rp} {d1 d2 : PyData} {tb : TE} (ha : EvD ta σ G r1) (hb : EvD tb σ G r2) (a1 : AsD K r1 d1) (a2 : AsD K r2 d2) (s1 : SeqAt.shaped d1 = true) (s2 : SeqAt.shaped d2 = true) : Ev (tOp (rEqD K) ta tb) σ G (.bl (PyData.eqv d1 d2)) :=
  ev_op2 ha hb fun x y H hx hy Q q => ⟨d1, d2, a1 x H hx, a2 y H hy, s1, s2, q⟩
theorem ev_neD {r1 r2 : Rp} {d1 d2 : PyData} {tb : TE} (ha : EvD ta σ G r1) (hb : EvD tb σ G r2) (a1 : AsD K r1 d1) (a2 : AsD K r2 d2) (s1 : SeqAt.shaped d1 = true) (s2 : SeqAt.shaped d2 = true) : Ev (tOp (rNeD K) ta tb) σ G (.bl (!PyData.eqv d1 d2)) :=
  ev_op2 ha hb fun x y H hx hy Q q => ⟨d1, d2, a1 x H hx, a2 y H hy, s1, s2, q⟩
end
end Mu
namespace Mu
open PySem L2 Evl
/-! ### shapes and equality of such data -/
def Sh (k : Nat) (d : PyData) : Prop := d.canLay0 = true ∧ d.depth ≤ k
theorem sh_all {α : Type} {δ : α → PyData} {k : Nat} (h : ∀ a, Sh k (δ a)) : ∀ l : List α, PyData.canLayAll0 (l.map δ) = true ∧ PyData.depthAll (l.map δ) ≤ k
  | [] => ⟨rfl, Nat.zero_le _⟩
  | a :: r => by
    obtain ⟨h1, h2⟩ := sh_all h r
    refine ⟨?_, ?_⟩
    · rw [List.map_cons]; unfold PyData.canLayAll0; rw [(h a).1, h1]; rfl
    · rw [List.map_cons]; unfold PyData.depthAll; exact Nat.max_le.mpr ⟨(h a).2, h2⟩
theorem sh_list {α : Type} {δ : α → PyData} {k : Nat} (h : ∀ a, Sh k (δ a)) (l : List α) : Sh (k + 1) (.list (l.map δ)) := by
  obtain ⟨h1, h2⟩ := sh_all h l
  refine ⟨by unfold PyData.canLay0; exact h1, ?_⟩
  unfold PyData.depth; omega
theorem sh_tup {α : Type} {δ : α → PyData} {k : Nat} (h : ∀ a, Sh k (δ a)) (l : List α) : Sh (k + 1) (.tuple (l.map δ)) := by
  obtain ⟨h1, h2⟩ := sh_all h l
  refine ⟨by unfold PyData.canLay0; exact h1, ?_⟩
  unfold PyData.depth; omega
theorem sh_int (i : Int) : Sh 1 (.int i) := ⟨by unfold PyData.canLay0; rfl, by unfold PyData.depth; omega⟩
theorem Sh.ok {k : Nat} {d : PyData} (h : Sh k d) (hk : k ≤ 64) : SeqAt.shaped d = true := by
  unfold SeqAt.shaped
  rw [h.1, decide_eq_true (Nat.le_trans h.2 hk)]; rfl
theorem Sh.mono {k j : Nat} {d : PyData} (h : Sh k d) (hk : k ≤ j) : Sh j d := ⟨h.1, Nat.le_trans h.2 hk⟩
theorem sh_ln (l : List Nat) : Sh 2 (dLn l) := sh_list (fun a => sh_int _) l
theorem sh_tn (l : List Nat) : Sh 2 (dTn l) := sh_tup (fun a => sh_int _) l
theorem sh_ll (l : List (List Nat)) : Sh 3 (dLL l) := sh_list sh_ln l
theorem sh_p (p : Nat × Nat) : Sh 2 (dP p) := sh_tup (fun a : Nat => sh_int (a : Int)) [p.1, p.2]
theorem eqv_all {α : Type} [DecidableEq α] {δ : α → PyData} (h : ∀ a b, PyData.eqv (δ a) (δ b) = decide (a = b)) : ∀ l m : List α, PyData.eqvAll (l.map δ) (m.map δ) = decide (l = m)
  | [], [] => by simp [PyData.eqvAll]
  | [], _ :: _ => by simp [PyData.eqvAll]
  | _ :: _, [] => by simp [PyData.eqvAll]
  | a :: l, b :: m => by
    rw [List.map_cons, List.map_cons, PyData.eqvAll, h a b, eqv_all h l m, Bool.eq_iff_iff]
    simp
theorem eqv_n (a b : Nat) : PyData.eqv (dN a) (dN b) = decide (a = b) := by
  rw [Bool.eq_iff_iff]
  simp [PyData.eqv]
  omega
theorem eqv_ln (a b : List Nat) : PyData.eqv (dLn a) (dLn b) = decide (a = b) := by
  show PyData.eqv (.list _) (.list _) = _
  rw [PyData.eqv]; exact eqv_all eqv_n a b
theorem eqv_tn (a b : List Nat) : PyData.eqv (dTn a) (dTn b) = decide (a = b) := by
  show PyData.eqv (.tuple _) (.tuple _) = _
  rw [PyData.eqv]; exact eqv_all eqv_n a b
theorem eqv_ll (a b : List (List Nat)) : PyData.eqv (dLL a) (dLL b) = decide (a = b) := by
  show PyData.eqv (.list _) (.list _) = _
  rw [PyData.eqv]; exact eqv_all eqv_ln a b
theorem eqv_p (a b : Nat × Nat) : PyData.eqv (dP a) (dP b) = decide (a = b) := by
  obtain ⟨a1, a2⟩ := a
  obtain ⟨b1, b2⟩ := b
  show PyData.eqv (.tuple _) (.tuple _) = _
  rw [PyData.eqv, Bool.eq_iff_iff]
  simp [PyData.eqvAll, PyData.eqv]
  omega
section
variable {K : PySem.W.Frag} {σ : L2.St} {G : Hp} {ta tb : TE}
theorem et_eqLn {l m : List Nat} (ha : EvD ta σ G (rLn K l)) (hb : EvD tb σ G (rLn K m)) : EvT (tTest (tOp (rEqD K) ta tb)) σ G (decide (l = m)) := eqv_ln l m ▸ et_test (ev_eqD ha hb (asd_ln l) (asd_ln m) ((sh_ln l).ok (by decide)) ((sh_ln m).ok (by decide)))
theorem et_neLn {l m : List Nat} (ha : EvD ta σ G (rLn K l)) (hb : EvD tb σ G (rLn K m)) : EvT (tTest (tOp (rNeD K) ta tb)) σ G (!decide (l = m)) := eqv_ln l m ▸ et_test (ev_neD ha hb (asd_ln l) (asd_ln m) ((sh_ln l).ok (by decide)) ((sh_ln m).ok (by decide)))
theorem et_neLL {l m : List (List Nat)} (ha : EvD ta σ G (rLL K l)) (hb : EvD tb σ G (rLL K m)) : EvT (tTest (tOp (rNeD K) ta tb)) σ G (!decide (l = m)) := eqv_ll l m ▸ et_test (ev_neD ha hb (asd_ll l) (asd_ll m) ((sh_ll l).ok (by decide)) ((sh_ll m).ok (by decide)))
theorem et_neP {l m : Nat × Nat} (ha : EvD ta σ G (rP K l)) (hb : EvD tb σ G (rP K m)) : EvT (tTest (tOp (rNeD K) ta tb)) σ G (!decide (l = m)) := eqv_p l m ▸ et_test (ev_neD ha hb (asd_p l) (asd_p m) ((sh_p l).ok (by decide)) ((sh_p m).ok (by decide)))
theorem ev_eqTn {l m : List Nat} (ha : EvD ta σ G (rTn K l)) (hb : EvD tb σ G (rTn K m)) : Ev (tOp (rEqD K) ta tb) σ G (.bl (decide (l = m))) := eqv_tn l m ▸ ev_eqD ha hb (asd_tn l) (asd_tn m) ((sh_tn l).ok (by decide)) ((sh_tn m).ok (by decide))
theorem ev_neTn {l m : List Nat} (ha : EvD ta σ G (rTn K l)) (hb : EvD tb σ G (rTn K m)) : Ev (tOp (rNeD K) ta tb) σ G (.bl (!decide (l = m))) := eqv_tn l m ▸ ev_neD ha hb (asd_tn l) (asd_tn m) ((sh_tn l).ok (by decide)) ((sh_tn m).ok (by decide))
/-! ### in a list of ints -/
theorem ints_flat (l : List Nat) : (l.map fun (n : Nat) => V.int (n : Int)).all flatV = true := by
  rw [List.all_map]
  exact List.all_eq_true.mpr fun _ _ => rfl
theorem inV_nat (w : Nat) (l : List Nat) : inV (.int (w : Int)) (l.map fun (n : Nat) => V.int (n : Int)) = decide (w ∈ l) := by
  unfold inV
  rw [List.any_map, Bool.eq_iff_iff, List.any_eq_true, decide_eq_true_iff]
  constructor
  · rintro ⟨x, hx, h⟩
    have : x = w := by
      have h2 : eqV (.int (x : Int)) (.int (w : Int)) = true := h
      simp [eqV] at h2
      omega
    rw [← this]; exact hx
  · intro h
    exact ⟨w, h, by simp [eqV]⟩
theorem ev_inLn {l : List Nat} {w : Nat} {neg : Bool} (ha : Ev ta σ G (.int (w : Int))) (hb : EvD tb σ G (rLn K l)) : Ev (tOp (rIn K neg) ta tb) σ G (.bl (if neg then !decide (w ∈ l) else decide (w ∈ l))) :=
  ev_op2 (Ev.d ha) hb fun x y H hx hy Q q => by
    obtain rfl : x = V.int (w : Int) := hx
    obtain ⟨a, vs, rfl, h1, h2⟩ := hy
    have e := ra_nats_eq h2
    subst e
    exact ⟨a, _, rfl, .inl (sq_of h1), rfl, ints_flat l, by rw [inV_nat]; exact q⟩
theorem et_in {l : List Nat} {w : Nat} (ha : Ev ta σ G (.int (w : Int))) (hb : EvD tb σ G (rLn K l)) : EvT (tTest (tOp (rIn K false) ta tb)) σ G (decide (w ∈ l)) := et_test (ev_inLn (neg := false) ha hb)
theorem et_notIn {l : List Nat} {w : Nat} (ha : Ev ta σ G (.int (w : Int))) (hb : EvD tb σ G (rLn K l)) : EvT (tTest (tOp (rIn K true) ta tb)) σ G (!decide (w ∈ l)) := et_test (ev_inLn (neg := true) ha hb)
end
end Mu

namespace Mu
open PySem L2 Evl
/-! ### the law's box: a list [cells, place, digits, state] that every draw changes -/
structure Box (K : PySem.W.Frag) (G H : Hp) (b : Addr) : Prop where
  ex : ∃ (c : Addr) (cells : List Int) (i x y : Int), H b = some (.lst [.ref c, .int i, .int x, .int y]) ∧ G c = some (.lst (cells.map V.int)) ∧ (∀ z ∈ cells, 0 ≤ z) ∧ 0 ≤ i ∧ 0 ≤ x ∧ 0 ≤ y ∧ y < 2147483647
theorem Box.mono {K : PySem.W.Frag} {G G' H H' : Hp} {b : Addr} (h : Box K G H b) (g : Ex G G') (e : Ex H H') : Box K G' H' b := by
  obtain ⟨c, cells, i, x, y, h1, h2, h3⟩ := h.ex
  exact ⟨c, cells, i, x, y, e _ _ h1, g _ _ h2, h3⟩
theorem Box.mono' {K : PySem.W.Frag} {G G' H H' : Hp} {b : Addr} (h : Box K G H b) (g : Ex G G') (e : ∀ o, H b = some o → H' b = some o) : Box K G' H' b := by
  obtain ⟨c, cells, i, x, y, h1, h2, h3⟩ := h.ex
  exact ⟨c, cells, i, x, y, e _ h1, g _ _ h2, h3⟩
theorem Box.at_ {K : PySem.W.Frag} {G H : Hp} {b : Addr} (h : Box K G H b) : ∃ o, H b = some o := by
  obtain ⟨c, cells, i, x, y, h1, _⟩ := h.ex
  exact ⟨_, h1⟩
/-- the box at b may have changed -/
structure GrB (b : Addr) (G H G2 H2 : Hp) : Prop where
  g : Ex G G2
  h : ∀ a o, H a = some o → a ≠ b → H2 a = some o
  i : Ex G2 H2
  n : ∀ a o, H a = some o → G a = none → G2 a = none
theorem Gr.b {b : Addr} {G H G2 H2 : Hp} (g : Gr G H G2 H2) : GrB b G H G2 H2 := ⟨g.g, fun a o z _ => g.h a o z, g.i, g.n⟩
theorem GrB.refl {b : Addr} {G H : Hp} (e : Ex G H) : GrB b G H G H := (Gr.refl e).b
theorem GrB.trans {b : Addr} {G H G2 H2 G3 H3 : Hp} (gb : G b = none) (hb : ∃ o, H b = some o) (a : GrB b G H G2 H2) (c : GrB b G2 H2 G3 H3) (hb2 : ∃ o, H2 b = some o) : GrB b G H G3 H3 :=
  ⟨a.g.trans c.g, fun x o z n => c.h x o (a.h x o z n) n, c.i, fun x o z y => by
    have y2 := a.n x o z y
    by_cases q : x = b
    · subst q
      obtain ⟨o2, z2⟩ := hb2
      exact c.n x o2 z2 y2
    · exact c.n x o (a.h x o z q) y2⟩
theorem GrB.out {b : Addr} {G H G2 H2 : Hp} (a : GrB b G H G2 H2) (gb : G b = none) (hb : ∃ o, H b = some o) : G2 b = none := by
  obtain ⟨o, z⟩ := hb
  exact a.n b o z gb
theorem GrB.more {b : Addr} {G H G2 H2 H3 : Hp} (a : GrB b G H G2 H2) (e : Ex H2 H3) : GrB b G H G2 H3 := ⟨a.g, fun x o z n => e x o (a.h x o z n), a.i.trans e, a.n⟩
/-- all that stood ahead and is not b -/
theorem GrB.all {b : Addr} {G H G2 H2 : Hp} (a : GrB b G H G2 H2) : Ex (off b H) H2 := fun x o z => by
  by_cases q : x = b
  · subst q; rw [off_self] at z; cases z
  · rw [off_ne q] at z; exact a.h x o z q

section
variable (K : PySem.W.Frag)
def EvB (te : TE) (σ : L2.St) (b : Addr) (G : Hp) (P : Rp → Prop) : Prop := ∀ H, Ex G H → G b = none → Box K G H b → ∀ Q : VK, (∀ r v G2 H2, P r → GrB b G H G2 H2 → Box K G2 H2 b → r.p v G2 → Q v H2) → te σ H Q
/-- a new list, outside the footprint -/
def EvBN (te : TE) (σ : L2.St) (b : Addr) (G : Hp) (P : List Rp → Prop) : Prop := ∀ H, Ex G H → G b = none → Box K G H b → ∀ Q : VK, (∀ rs p vs G2 H2, P rs → GrB b G H G2 H2 → Box K G2 H2 b → H p = none → G2 p = none → H2 p = some (.lst vs) → RA G2 vs rs → Q (.ref p) H2) → te σ H Q
def EvTB (tt : TT) (σ : L2.St) (b : Addr) (G : Hp) (P : Bool → Prop) : Prop := ∀ H, Ex G H → G b = none → Box K G H b → ∀ Q : Bool → Hp → Prop, (∀ c G2 H2, P c → GrB b G H G2 H2 → Box K G2 H2 b → Q c H2) → tt σ H Q
def spB (R : List V → Hp → (Rp → Prop) → Prop) : Sp := fun vs H Q _ => ∃ G b ws P, vs = .ref b :: ws ∧ Ex G H ∧ G b = none ∧ Box K G H b ∧ R ws G P ∧ ∀ r v G2 H2, P r → GrB b G H G2 H2 → Box K G2 H2 b → r.p v G2 → Q v H2
def spBN (R : List V → Hp → (List Rp → Prop) → Prop) : Sp := fun vs H Q _ => ∃ G b ws P, vs = .ref b :: ws ∧ Ex G H ∧ G b = none ∧ Box K G H b ∧ R ws G P ∧ ∀ rs p vs G2 H2, P rs → GrB b G H G2 H2 → Box K G2 H2 b → H p = none → G2 p = none → H2 p = some (.lst vs) → RA G2 vs rs → Q (.ref p) H2
/-- a draw below n -/
def PN (n : Nat) : Rp → Prop := fun r => ∃ d : Nat, d < n ∧ r = nI d
/-- take(box, m): a number below m; only the box changes, and it stays a box over whatever footprint it was one -/
def spT : Sp := fun vs H Q _ => ∃ G b m, vs = [.ref b, .int ((m : Nat) : Int)] ∧ Ex G H ∧ G b = none ∧ Box K G H b ∧ 0 < m ∧ m < 2 ^ 30 ∧ ∀ (d : Nat) H2, d < m → (∀ a o, H a = some o → a ≠ b → H2 a = some o) → (∀ G', Box K G' H b → Box K G' H2 b) → Q (.int (d : Int)) H2
/-- a plain value, by draws alone -/
def EvBI (te : TE) (σ : L2.St) (b : Addr) (G : Hp) (PV : V → Prop) : Prop := ∀ H, Ex G H → G b = none → Box K G H b → ∀ Q : VK, (∀ v H2, PV v → (∀ a o, H a = some o → a ≠ b → H2 a = some o) → (∀ G', Box K G' H b → Box K G' H2 b) → Q v H2) → te σ H Q
end
section
variable {K : PySem.W.Frag} {σ : L2.St} {b : Addr} {G H : Hp} {te ta tb : TE} {P P1 : Rp → Prop} {D : Ends} {tu tw : TS} {i i0 : Nat} {E : XK}
theorem EvD.bx {r : Rp} (h : EvD te σ G r) : EvB K te σ b G (fun x => x = r) := fun H e gb hb Q q => h H e Q fun v G2 H2 g hv => q r v G2 H2 rfl g.b (hb.mono g.g g.h) hv
theorem EvB.imp {P' : Rp → Prop} (h : EvB K te σ b G P) (hp : ∀ r, P r → P' r) : EvB K te σ b G P' := fun H e gb hb Q q => h H e gb hb Q fun r v G2 H2 p => q r v G2 H2 (hp r p)
theorem EvBN.d {P : List Rp → Prop} (h : EvBN K te σ b G P) : EvB K te σ b G (fun r => ∃ rs, P rs ∧ r = rL K rs) := fun H e gb hb Q q => h H e gb hb Q fun rs p vs G2 H2 hP g hb2 hp gp h2 ra =>
  q (rL K rs) (.ref p) (upd G2 p (.lst vs)) H2 ⟨rs, hP, rfl⟩ ⟨g.g.trans (Ex.new gp), g.h, ex_add g.i h2, fun a o z y => by rw [upd_ne (ne_of_none z hp)]; exact g.n a o z y⟩ (hb2.mono (Ex.new gp) (Ex.refl _)) ⟨p, vs, rfl, upd_same, ra.mono (Ex.new gp)⟩
theorem eb_call {ta : TA} {rs : List Rp} {R : List V → Hp → (Rp → Prop) → Prop} (hv : σ[i0]? = some (some (.ref b))) (h : EvAD ta σ G rs) (hs : ∀ ws G2, Ex G G2 → RA G2 ws rs → R ws G2 P) : EvB K (tCall (spB K R) [] E (tCons (tVar i0) ta)) σ b G P := fun H e gb hb Q q =>
  ⟨.ref b, hv, h H e _ fun ws G2 H2 g hw => by
    show spB K R ((V.ref b :: ws) ++ []) H2 Q E
    rw [List.append_nil]
    have gb2 : G2 b = none := by obtain ⟨o, z⟩ := hb.at_; exact g.n b o z gb
    refine ⟨G2, b, ws, P, rfl, g.i, gb2, hb.mono g.g g.h, hs ws G2 g.g hw, fun r v G3 H3 p g3 hb3 hv3 => q r v G3 H3 p (g.b.trans gb hb.at_ g3 (hb.mono g.g g.h).at_) hb3 hv3⟩⟩
theorem ebn_call {ta : TA} {rs : List Rp} {P : List Rp → Prop} {R : List V → Hp → (List Rp → Prop) → Prop} (hv : σ[i0]? = some (some (.ref b))) (h : EvAD ta σ G rs) (hs : ∀ ws G2, Ex G G2 → RA G2 ws rs → R ws G2 P) : EvBN K (tCall (spBN K R) [] E (tCons (tVar i0) ta)) σ b G P := fun H e gb hb Q q =>
  ⟨.ref b, hv, h H e _ fun ws G2 H2 g hw => by
    show spBN K R ((V.ref b :: ws) ++ []) H2 Q E
    rw [List.append_nil]
    have gb2 : G2 b = none := by obtain ⟨o, z⟩ := hb.at_; exact g.n b o z gb
    refine ⟨G2, b, ws, P, rfl, g.i, gb2, hb.mono g.g g.h, hs ws G2 g.g hw, fun rs' p vs G3 H3 p3 g3 hb3 hp gp h3 ra => q rs' p vs G3 H3 p3 (g.b.trans gb hb.at_ g3 (hb.mono g.g g.h).at_) hb3 (fresh_back g.h hp) gp h3 ra⟩⟩
theorem EvBI.eb {PV : V → Prop} (h : EvBI K te σ b G PV) : EvB K te σ b G (fun r => ∃ v, PV v ∧ r = rV v) := fun H e gb hb Q q => h H e gb hb Q fun v H2 p k s => q (rV v) v G H2 ⟨v, p, rfl⟩ ⟨Ex.refl G, k, fun a o z => k a o (e a o z) (fun q => by subst q; rw [gb] at z; cases z), fun _ _ _ z => z⟩ (s G hb) rfl
/-- take(box, m) -/
theorem ebi_take {m : Nat} (hv : σ[i0]? = some (some (.ref b))) (h : Ev te σ G (.int (m : Int))) (h0 : 0 < m) (h1 : m < 2 ^ 30) : EvBI K (tCall (spT K) [] E (tCons (tVar i0) (tCons te tNil))) σ b G (fun v => ∃ d : Nat, d < m ∧ v = .int (d : Int)) := fun H e gb hb Q q =>
  ⟨.ref b, hv, h H e _ fun H2 e2 => by
    show spT K (([V.ref b, V.int (m : Int)]) ++ []) H2 Q E
    rw [List.append_nil]
    refine ⟨G, b, m, rfl, e.trans e2, gb, hb.mono (Ex.refl G) e2, h0, h1, fun d H3 hd k s => q _ H3 ⟨d, hd, rfl⟩ (fun a o z n => k a o (e2 a o z) n) fun G' hb' => s G' (hb'.mono (Ex.refl G') e2)⟩⟩
theorem eb_take {m : Nat} (hv : σ[i0]? = some (some (.ref b))) (h : Ev te σ G (.int (m : Int))) (h0 : 0 < m) (h1 : m < 2 ^ 30) : EvB K (tCall (spT K) [] E (tCons (tVar i0) (tCons te tNil))) σ b G (PN m) :=
  EvB.imp (EvBI.eb (ebi_take hv h h0 h1)) fun r ⟨v, ⟨d, hd, hv⟩, hr⟩ => ⟨d, hd, by rw [hr, hv]⟩
/-- t and a drawn test -/
theorem etb_and {t u : TT} {c : Bool} {P : Bool → Prop} (h1 : EvT t σ G c) (h2 : c = true → EvTB K u σ b G P) : EvTB K (tAnd t u) σ b G (fun d => (c = false ∧ d = false) ∨ (c = true ∧ P d)) := fun H e gb hb Q q => h1 H e _ fun H1 e1 => by
  cases c with
  | true =>
    show u σ H1 Q
    exact h2 rfl H1 (e.trans e1) gb (hb.mono (Ex.refl G) e1) Q fun d G2 H2 p g hb2 => q d G2 H2 (.inr ⟨rfl, p⟩) ⟨g.g, fun a o z n => g.h a o (e1 a o z) n, g.i, fun a o z y => g.n a o (e1 a o z) y⟩ hb2
  | false =>
    show Q false H1
    exact q false G H1 (.inl ⟨rfl, rfl⟩) ((GrB.refl e).more e1) (hb.mono (Ex.refl G) e1)
/-- xs[a draw], xs a list of ints at a name -/
theorem ebi_ix {l : List Nat} {n j : Nat} {x : V} (hv : σ[j]? = some (some x)) (hx : (rLn K l).p x G) (hb : EvBI K tb σ b G (fun v => ∃ d : Nat, d < n ∧ v = .int (d : Int))) (hn : n ≤ l.length) : EvBI K (tOp (rIxL K) (tVar j) tb) σ b G (fun v => ∃ w ∈ l, v = .int (w : Int)) := fun H e gb hbx Q q =>
  ⟨x, hv, hb H e gb hbx _ fun v H2 ⟨d, hd, hv⟩ k s => by
    subst hv
    obtain ⟨a, vs, rfl, h1, ra⟩ := hx
    have ev := ra_nats_eq ra
    subst ev
    have hdl : d < l.length := by omega
    refine ⟨a, _, (d : Int), .int ((l[d] : Nat) : Int), rfl, rfl, sq_of (k a _ (e _ _ h1) (fun q => by subst q; rw [gb] at h1; cases h1)), atI_nat (by rw [List.getElem?_map, List.getElem?_eq_getElem hdl]; rfl), q _ H2 ⟨l[d], List.getElem_mem hdl, rfl⟩ k s⟩⟩
/-- xs.append(a drawn plain value that may be made of xs), xs a list of our own -/
theorem s_appBI {p : Addr} {ws : List V} {PV : V → Prop} (e : Ex G H) (gb : G b = none) (hbx : Box K G H b) (hp : H p = some (.lst ws)) (gp : G p = none) (pb : p ≠ b) (hv : σ[i]? = some (some (.ref p))) (h : EvBI K te σ b (upd G p (.lst ws)) PV) (hz : ws.length < 50000)
    (k : ∀ v H2, PV v → (∀ a o, H a = some o → a ≠ p → a ≠ b → H2 a = some o) → Box K G H2 b → H2 p = some (.lst (ws ++ [v])) → D.nx σ H2) :
    tDrop (tBM K "list" rAppend (tVar i) (tCons te tNil)) D σ H := ⟨.ref p, hv, Or.inl ⟨rfl, ws, sq_of hp⟩, h H (ex_add e hp) (by rw [upd_ne (Ne.symm pb)]; exact gb) (hbx.mono (Ex.new gp) (Ex.refl H)) _ fun v H2 hP kk s =>
  ⟨p, ws, v, rfl, rfl, kk _ _ hp pb, sz_lt (by omega), k v _ hP (fun a o z n nb => by rw [upd_ne n]; exact kk a o z nb) ((s G hbx).mono' (Ex.refl G) fun o z => by rw [upd_ne (Ne.symm pb)]; exact z) upd_same⟩⟩
/-- xs.reverse() -/
theorem s_rev {p : Addr} {ws : List V} (hp : H p = some (.lst ws)) (hv : Ev ta σ H (.ref p)) (k : ∀ H1, Ex H H1 → D.nx σ (upd H1 p (.lst ws.reverse))) : tDrop (tBM0 K "list" rReverse ta) D σ H := hv H (Ex.refl H) _ fun H1 e1 =>
  ⟨Or.inl ⟨rfl, ws, sq_of (e1 _ _ hp)⟩, p, ws, rfl, rfl, e1 _ _ hp, k H1 e1⟩
/-- a written operand, then a draw -/
theorem eb_opN {rr : R2} {x : V} {n : Nat} (ha : Ev ta σ G x) (hb : EvB K tb σ b G (PN n)) (f : Nat → V) (hs : ∀ d, d < n → ∀ H (Q : VK), Q (f d) H → rr x (.int (d : Int)) H Q) : EvB K (tOp rr ta tb) σ b G (fun r => ∃ d, d < n ∧ r = rV (f d)) := fun H e gb hbx Q q =>
  ha H e _ fun H1 e1 => hb H1 (e.trans e1) gb (hbx.mono (Ex.refl G) e1) _ fun r v G2 H2 p g hb2 hv => by
    obtain ⟨d, hd, rfl⟩ := p
    obtain rfl : v = V.int (d : Int) := hv
    exact hs d hd H2 Q (q (rV (f d)) (f d) G2 H2 ⟨d, hd, rfl⟩ ⟨g.g, fun a o z n => g.h a o (e1 a o z) n, g.i, fun a o z y => g.n a o (e1 a o z) y⟩ hb2 rfl)
/-- a draw, then a written operand -/
theorem eb_opN' {rr : R2} {y : V} {n : Nat} (ha : EvB K ta σ b G (PN n)) (hb : ∀ G2, Ex G G2 → Ev tb σ G2 y) (f : Nat → V) (hs : ∀ d, d < n → ∀ H (Q : VK), Q (f d) H → rr (.int (d : Int)) y H Q) : EvB K (tOp rr ta tb) σ b G (fun r => ∃ d, d < n ∧ r = rV (f d)) := fun H e gb hbx Q q =>
  ha H e gb hbx _ fun r v G2 H2 p g hb2 hv => by
    obtain ⟨d, hd, rfl⟩ := p
    obtain rfl : v = V.int (d : Int) := hv
    refine hb G2 g.g H2 g.i _ fun H3 e3 => ?_
    exact hs d hd H3 Q (q (rV (f d)) (f d) G2 H3 ⟨d, hd, rfl⟩ (g.more e3) (hb2.mono (Ex.refl _) e3) rfl)
theorem et_bN {f : Nat → Bool} {n : Nat} (h : EvB K te σ b G (fun r => ∃ d, d < n ∧ r = rV (.bl (f d)))) : EvTB K (tTest te) σ b G (fun c => ∃ d, d < n ∧ c = f d) := fun H e gb hb Q q =>
  h H e gb hb _ fun r v G2 H2 p g hb2 hv => by
    obtain ⟨d, hd, rfl⟩ := p
    obtain rfl : v = V.bl (f d) := hv
    exact ⟨_, rfl, q _ G2 H2 ⟨d, hd, rfl⟩ g hb2⟩
/-! statements -/
theorem s_setB (e : Ex G H) (gb : G b = none) (hb : Box K G H b) (h : EvB K te σ b G P) (k : ∀ r v G2 H2, P r → GrB b G H G2 H2 → Box K G2 H2 b → r.p v G2 → D.nx (σ.set i (some v)) H2) : tAsg te (gName i) D σ H := h H e gb hb _ k
theorem s_setBN {P : List Rp → Prop} (e : Ex G H) (gb : G b = none) (hb : Box K G H b) (h : EvBN K te σ b G P) (k : ∀ rs p vs G2 H2, P rs → GrB b G H G2 H2 → Box K G2 H2 b → H p = none → G2 p = none → H2 p = some (.lst vs) → RA G2 vs rs → D.nx (σ.set i (some (.ref p))) H2) : tAsg te (gName i) D σ H := h H e gb hb _ k
theorem s_ifB {t : TT} {P : Bool → Prop} (e : Ex G H) (gb : G b = none) (hb : Box K G H b) (h : EvTB K t σ b G P) (h1 : P true → ∀ G2 H2, GrB b G H G2 H2 → Box K G2 H2 b → tu D σ H2) (h2 : P false → ∀ G2 H2, GrB b G H G2 H2 → Box K G2 H2 b → tw D σ H2) : tIfS t tu tw D σ H := h H e gb hb _ fun c G2 H2 p g hb2 => by
  cases c with
  | true =>
    show tu D σ H2
    exact h1 p G2 H2 g hb2
  | false =>
    show tw D σ H2
    exact h2 p G2 H2 g hb2
/-- xs.append(a drawn thing), xs a list of our own -/
theorem s_appB {p : Addr} {ws : List V} {rs : List Rp} (e : Ex G H) (gb : G b = none) (hbx : Box K G H b) (hp : H p = some (.lst ws)) (gp : G p = none) (pb : p ≠ b) (ra : RA G ws rs) (hv : Ev ta σ G (.ref p)) (h : EvB K te σ b G P) (hz : rs.length < 50000)
    (k : ∀ r ws' G2 H2, P r → Ex G G2 → (∀ a o, H a = some o → a ≠ p → a ≠ b → H2 a = some o) → Ex G2 H2 → (∀ a o, H a = some o → G a = none → G2 a = none) → Box K G2 H2 b → H2 p = some (.lst ws') → RA G2 ws' (rs ++ [r]) → D.nx σ H2) :
    tDrop (tBM K "list" rAppend ta (tCons te tNil)) D σ H := hv H e _ fun H1 e1 => ⟨Or.inl ⟨rfl, ws, sq_of (e1 p _ hp)⟩, h H1 (e.trans e1) gb (hbx.mono (Ex.refl G) e1) _ fun r v G2 H2 hP g hb2 hv2 => by
  have h2 := g.h p _ (e1 p _ hp) pb
  have g2 : G2 p = none := g.n p _ (e1 p _ hp) gp
  refine ⟨p, ws, v, rfl, rfl, h2, sz_lt (by rw [ra.len]; omega), k r (ws ++ [v]) G2 _ hP g.g (fun a o z n nb => ?_) (Ex.mut g.i g2) (fun a o z n => g.n a o (e1 a o z) n) ?_ upd_same ((ra.mono g.g).snoc hv2)⟩
  · rw [upd_ne n]
    exact g.h a o (e1 a o z) nb
  · exact hb2.mono' (Ex.refl _) fun o z => by rw [upd_ne (Ne.symm pb)]; exact z⟩
end
section
variable {K : PySem.W.Frag} {σ : L2.St} {G H : Hp} {te ta tb : TE} {tl th : TO}
theorem RA.drop {H : Hp} : ∀ {vs : List V} {rs : List Rp} (n : Nat), RA H vs rs → RA H (vs.drop n) (rs.drop n)
  | _, _, 0, h => h
  | _, _, _ + 1, .nil => .nil
  | _, _, n + 1, .cons _ t => RA.drop n t
theorem RA.take {H : Hp} : ∀ {vs : List V} {rs : List Rp} (n : Nat), RA H vs rs → RA H (vs.take n) (rs.take n)
  | _, _, 0, _ => .nil
  | _, _, _ + 1, .nil => .nil
  | _, _, n + 1, .cons h t => .cons h (RA.take n t)
def cutR {α : Type} (xs : List α) (lo hi : Option Int) : List α := (xs.drop (HT.sIx xs.length 0 lo)).take (HT.sIx xs.length xs.length hi - HT.sIx xs.length 0 lo)
theorem cutR_map {α β : Type} (f : α → β) (l : List α) (lo hi : Option Int) : cutR (l.map f) lo hi = (cutR l lo hi).map f := by
  unfold cutR
  rw [List.length_map, List.map_take, List.map_drop]
/-- xs[lo:hi] -/
theorem en_slL {rs : List Rp} {lo hi : Option Int} (h : EvD te σ G (rLs K rs)) (h1 : ∀ G', Ex G G' → EvO tl σ G' lo) (h2 : ∀ G', Ex G G' → EvO th σ G' hi) : EvN (tSl (rSlL K) te tl th) σ G (cutR rs lo hi) := fun H e Q q =>
  h H e _ fun v G2 H2 g hv => by
    obtain ⟨a, vs, rfl, s1, ra⟩ := hv
    refine h1 G2 g.g H2 g.i _ fun H3 e3 => h2 G2 g.g H3 (g.i.trans e3) _ fun H4 e4 => ?_
    refine ⟨a, vs, rfl, ex_l ((g.i.trans e3).trans e4) s1, fun p hp => ?_⟩
    have gg := (g.more e3).more e4
    refine q p (cutV vs lo hi) G2 _ (gg.more (Ex.new hp)) (fresh_back gg.h hp) (fresh_back gg.i hp) upd_same ?_
    unfold cutV cutR
    rw [ra.len]
    exact (ra.drop _).take _
/-! ### ints that are not known: a list of ints -/
theorem ra_ints_eq {H : Hp} : ∀ {l : List Int} {vs : List V}, RA H vs (l.map rI) → vs = l.map V.int
  | [], _, .nil => rfl
  | n :: r, _, .cons h t => by
    have e1 := ra_ints_eq (l := r) t
    have e2 : _ = V.int n := h
    rw [e1, e2]; rfl
theorem ra_ints {H : Hp} : ∀ {l : List Int}, RA H (l.map V.int) (l.map rI)
  | [] => .nil
  | _ :: r => .cons rfl (ra_ints (l := r))
def spBoxMk (K : PySem.W.Frag) : Sp := fun vs H Q _ => ∃ (a : Addr) (ns : List Int), vs = [.ref a] ∧ SqL K H a (ns.map V.int) ∧ ns.length ≤ 63 ∧ ∀ b G2 H2, Ex H G2 → Ex G2 H2 → H b = none → G2 b = none → Box K G2 H2 b → Q (.ref b) H2
theorem ev_abs {i : Int} (h : Ev te σ G (.int i)) : Ev (tCB (fun xs H Q => ∃ i, xs = [.int i] ∧ Q (.int (if i < 0 then -i else i)) H) (tCons te tNil)) σ G (.int (if i < 0 then -i else i)) := fun H e Q q => h H e _ fun H2 e2 => ⟨i, rfl, q H2 e2⟩
theorem ev_int {i : Int} (h : Ev te σ G (.int i)) : Ev (tCB (fun xs H Q => (∃ i, xs = [.int i] ∧ Q (.int i) H) ∨ ∃ k, xs = [.bl k] ∧ Q (.int (if k then 1 else 0)) H) (tCons te tNil)) σ G (.int i) := fun H e Q q => h H e _ fun H2 e2 => .inl ⟨i, rfl, q H2 e2⟩
end
section
variable {K : PySem.W.Frag} {σ : L2.St} {b p : Addr} {G H : Hp} {te ta tb : TE} {D : Ends}
theorem en_listR {n : Nat} (h : Ev te σ G (.int (n : Int))) (hn : n ≤ 1000000) : EvN (tLstRg (tRg1 te)) σ G ((List.range n).map nI) := fun H e Q q => h H e _ fun H2 e2 =>
  ⟨(n : Int), rfl, RgOk.of_le (by omega) (by omega) (by omega) (by omega), fun l hl => by
    have eq : rgV 0 (n : Int) = (List.range n).map fun (i : Nat) => V.int (i : Int) := by
      unfold rgV
      rw [Int.sub_zero, Int.toNat_natCast]
      exact List.map_congr_left fun a _ => by rw [Int.zero_add]
    refine q l _ G _ (((Gr.refl e).more e2).more (Ex.new hl)) (fresh_back e2 hl) (fresh_back (e.trans e2) hl) upd_same ?_
    rw [eq]
    exact ra_nats⟩
/-- xs[i] = a new list of ints that is made of what stands, xs itself among it -/
theorem s_setNI {ws : List V} {rs : List Rp} {l : List Nat} {j : Nat} (e : Ex G H) (hp : H p = some (.lst ws)) (gp : G p = none) (ra : RA G ws rs) (h : EvN te σ (upd G p (.lst ws)) (l.map nI)) (ho : Ev ta σ G (.ref p)) (hi : Ev tb σ G (.int (j : Int))) (hj : j < rs.length)
    (k : ∀ ws' G3 H3, Ex G G3 → (∀ a o, H a = some o → a ≠ p → H3 a = some o) → Ex G3 H3 → (∀ a o, H a = some o → G a = none → G3 a = none) → G3 p = none → H3 p = some (.lst ws') → RA G3 ws' (rs.set j (rLn K l)) → D.nx σ H3) :
    tAsg te (gSub ta tb rSetL) D σ H := h H (ex_add e hp) _ fun q vs G2 H2 g hq gq h2 ra2 => by
  have ev := ra_nats_eq ra2
  subst ev
  have pq : p ≠ q := ne_of_none hp hq
  refine ho H2 (e.trans g.h) _ fun H3 e3 => hi H3 ((e.trans g.h).trans e3) _ fun H4 e4 => ?_
  have e34 := e3.trans e4
  have gq0 : G q = none := fresh_back e hq
  refine ⟨p, ws, (j : Int), j, rfl, rfl, e34 _ _ (g.h _ _ hp), ixN_nat (by rw [ra.len]; exact hj), ?_⟩
  refine k (ws.set j (.ref q)) (upd G q (.lst (l.map fun (n : Nat) => V.int (n : Int)))) _ (Ex.new gq0) (fun a o z n => by rw [upd_ne n]; exact e34 _ _ (g.h _ _ z)) ?_ (fun a o z y => by rw [upd_ne (ne_of_none z hq)]; exact y) (by rw [upd_ne pq]; exact gp) upd_same ?_
  · refine Ex.mut (ex_add ((e.trans g.h).trans e34) (e34 _ _ h2)) (by rw [upd_ne pq]; exact gp)
  · exact RA.set (r := rLn K l) ⟨q, _, rfl, upd_same, ra_nats⟩ j (ra.mono (Ex.new gq0))
/-- [a draw] -/
theorem ebn_lst1 {n : Nat} (h : EvB K te σ b G (PN n)) : EvBN K (tLst (tCons te tNil)) σ b G (fun rs => ∃ d, d < n ∧ rs = [nI d]) := fun H e gb hb Q q =>
  h H e gb hb _ fun r v G2 H2 p g hb2 hv => ⟨by show 1 ≤ sizeLine; decide, fun l hl => by
    obtain ⟨d, hd, rfl⟩ := p
    obtain rfl : v = V.int (d : Int) := hv
    have hlb : l ≠ b := fun z => by
      subst z
      obtain ⟨o, z2⟩ := hb2.at_
      rw [z2] at hl; cases hl
    have hlH : H l = none := by
      cases z : H l with
      | none => rfl
      | some o => rw [g.h l o z hlb] at hl; cases hl
    exact q [nI d] l [.int (d : Int)] G2 _ ⟨d, hd, rfl⟩ (g.more (Ex.new hl)) (hb2.mono (Ex.refl _) (Ex.new hl)) hlH (fresh_back g.i hl) upd_same (.cons rfl .nil)⟩
end
theorem bits_pow (d : Nat) : bitsN (2 ^ d) = [d] := by
  have h : (2 : Nat) ^ d < 2 ^ (d + 1) := Nat.pow_lt_pow_right (by decide) (by omega)
  rw [← bits_eq h, List.range_succ, List.filter_append]
  have h1 : (List.range d).filter (2 ^ d).testBit = [] := List.filter_eq_nil_iff.mpr fun a ha => by
    have := List.mem_range.mp ha
    rw [Nat.testBit_two_pow]
    simp
    omega
  rw [h1]
  simp [Nat.testBit_two_pow]
theorem pow_list {n : Nat} (h : n ≤ 6) : ([nI 1, nI 2, nI 4, nI 8, nI 16, nI 32, nI 64] : List Rp)[n]? = some (nI (2 ^ n)) := by
  have : n = 0 ∨ n = 1 ∨ n = 2 ∨ n = 3 ∨ n = 4 ∨ n = 5 ∨ n = 6 := by omega
  rcases this with rfl | rfl | rfl | rfl | rfl | rfl | rfl <;> rfl
theorem pow_list6 {n : Nat} (h : n ≤ 5) : ([nI 1, nI 2, nI 4, nI 8, nI 16, nI 32] : List Rp)[n]? = some (nI (2 ^ n)) := by
  have : n = 0 ∨ n = 1 ∨ n = 2 ∨ n = 3 ∨ n = 4 ∨ n = 5 := by omega
  rcases this with rfl | rfl | rfl | rfl | rfl | rfl <;> rfl
theorem test_div (m w : Nat) : decide (((m : Int) / ((2 ^ w : Nat) : Int)) % 2 = 1) = m.testBit w := by
  rw [← Int.natCast_ediv, Bool.eq_iff_iff, decide_eq_true_iff, ← shr_test, Nat.testBit_zero, decide_eq_true_iff]
  omega
/-- behind an append to a list p of our own -/
theorem GrB.app {b p : Addr} {G0 H0 G H G3 H3 : Hp} (g : GrB b G0 H0 G H) (hp0 : H0 p = none) (gb0 : G0 b = none) (hb0 : ∃ o, H0 b = some o) (hb : ∃ o, H b = some o) (e3 : Ex G G3) (k3 : ∀ a o, H a = some o → a ≠ p → a ≠ b → H3 a = some o) (i3 : Ex G3 H3) (n3 : ∀ a o, H a = some o → G a = none → G3 a = none) : GrB b G0 H0 G3 H3 where
  g := g.g.trans e3
  h := fun a o z nb => k3 a o (g.h a o z nb) (ne_of_none z hp0) nb
  i := i3
  n := fun a o z y => by
    have y2 := g.n a o z y
    by_cases q : a = b
    · subst q
      obtain ⟨o2, z2⟩ := hb
      exact n3 a o2 z2 y2
    · exact n3 a o (g.h a o z q) y2
theorem GrB.fresh {b p : Addr} {G H G2 H2 : Hp} (g : GrB b G H G2 H2) (hb2 : ∃ o, H2 b = some o) (hp : H2 p = none) : H p = none ∧ p ≠ b := by
  have hpb : p ≠ b := fun z => by
    subst z
    obtain ⟨o, z2⟩ := hb2
    rw [z2] at hp; cases hp
  refine ⟨?_, hpb⟩
  cases z : H p with
  | none => rfl
  | some o => rw [g.h p o z hpb] at hp; cases hp
section
variable {K : PySem.W.Frag} {σ : L2.St} {G H : Hp} {te ta tb tf : TE} {C : Addr} {m : List Nat} {sp : Sp} {E : XK}
/-- xs + ys -/
theorem en_cat {rs ss : List Rp} (ha : EvD ta σ G (rL K rs)) (hb : EvD tb σ G (rL K ss)) (hz : rs.length + ss.length ≤ 100000) : EvN (tOp rCat ta tb) σ G (rs ++ ss) := en_op ha hb fun x y G2 H e1 e2 hx hy Q q => by
  obtain ⟨a, vs, rfl, h1, h2⟩ := hx
  obtain ⟨a', vs', rfl, h1', h2'⟩ := hy
  refine ⟨a, a', vs, vs', rfl, rfl, e2 _ _ h1, e2 _ _ h1', sz_of (by rw [h2.len, h2'.len]; exact hz), fun p hp => ?_⟩
  exact q p _ G2 _ ((Gr.refl e2).more (Ex.new hp)) hp (fresh_back e2 hp) upd_same (h2.append h2')
/-- table(words) -/
theorem en_callT {ss rs : List Rp} {ta : TA} (hf : EvD tf σ G (rTab K C m)) (ha : EvAD ta σ G ss) (hs : ∀ x vs G2, Ex G G2 → (rTab K C m).p x G2 → RA G2 vs ss → SpN sp (x :: vs) G2 rs) : EvN (tCallOwn C sp E tf ta) σ G rs := fun H e Q q =>
  hf H e _ fun x G2 H2 g hx => by
    obtain ⟨a, dx, t, c, rfl, h2, h3⟩ := id hx
    refine ⟨a, rfl, (ha.mono g.g) H2 g.i _ fun vs G3 H3 g3 ra => ⟨⟨dx, _, g3.h _ _ (g.i _ _ h2)⟩, hs _ vs G3 (g.g.trans g3.g) ((rTab K C m).mono g3.g hx) ra H3 g3.i Q (fun p ws G4 H4 g4 hp gp h4 ra4 => q p ws G4 H4 ((g.trans g3).trans g4) (fresh_back (g.h.trans g3.h) hp) gp h4 ra4) E⟩⟩
end
section
variable {K : PySem.W.Frag} {σ : L2.St} {b : Addr} {G H : Hp} {te ta tb : TE} {D : Ends} {tu tw : TS}
/-- a test by draws alone -/
def EvTBI (K : PySem.W.Frag) (tt : TT) (σ : L2.St) (b : Addr) (G : Hp) (P : Bool → Prop) : Prop := ∀ H, Ex G H → G b = none → Box K G H b → ∀ Q : Bool → Hp → Prop, (∀ c H2, P c → (∀ a o, H a = some o → a ≠ b → H2 a = some o) → (∀ G', Box K G' H b → Box K G' H2 b) → Q c H2) → tt σ H Q
theorem etbi_eq {n : Nat} {y : Int} (ha : EvBI K ta σ b G (fun v => ∃ d : Nat, d < n ∧ v = .int (d : Int))) : EvTBI K (tTest (tOp rEq ta (tC (.int y)))) σ b G (fun c => ∃ d : Nat, d < n ∧ c = decide (V.int (d : Int) = V.int y)) := fun H e gb hb Q q =>
  ha H e gb hb _ fun v H2 ⟨d, hd, hv⟩ k s => by
    subst hv
    exact ⟨rfl, _, rfl, q _ H2 ⟨d, hd, rfl⟩ k s⟩
theorem etbi_and {t u : TT} {c : Bool} {P : Bool → Prop} (h1 : EvT t σ G c) (h2 : c = true → EvTBI K u σ b G P) : EvTBI K (tAnd t u) σ b G (fun d => (c = false ∧ d = false) ∨ (c = true ∧ P d)) := fun H e gb hb Q q => h1 H e _ fun H1 e1 => by
  cases c with
  | true =>
    show u σ H1 Q
    exact h2 rfl H1 (e.trans e1) gb (hb.mono (Ex.refl G) e1) Q fun d H2 p k s => q d H2 (.inr ⟨rfl, p⟩) (fun a o z n => k a o (e1 a o z) n) fun G' hb' => s G' (hb'.mono (Ex.refl G') e1)
  | false =>
    show Q false H1
    exact q false H1 (.inl ⟨rfl, rfl⟩) (fun a o z _ => e1 a o z) fun G' hb' => hb'.mono (Ex.refl G') e1
theorem s_ifBI {t : TT} {P : Bool → Prop} (e : Ex G H) (gb : G b = none) (hb : Box K G H b) (h : EvTBI K t σ b G P) (h1 : P true → ∀ H2, (∀ a o, H a = some o → a ≠ b → H2 a = some o) → (∀ G', Box K G' H b → Box K G' H2 b) → tu D σ H2) (h2 : P false → ∀ H2, (∀ a o, H a = some o → a ≠ b → H2 a = some o) → (∀ G', Box K G' H b → Box K G' H2 b) → tw D σ H2) : tIfS t tu tw D σ H := h H e gb hb _ fun c H2 p k s => by
  cases c with
  | true =>
    show tu D σ H2
    exact h1 p H2 k s
  | false =>
    show tw D σ H2
    exact h2 p H2 k s
theorem GrB.same {b : Addr} {G0 H0 G H H2 : Hp} (g : GrB b G0 H0 G H) (gb : G b = none) (k : ∀ a o, H a = some o → a ≠ b → H2 a = some o) : GrB b G0 H0 G H2 := ⟨g.g, fun a o z n => k a o (g.h a o z n) n, fun a o z => k a o (g.i a o z) (fun q => by subst q; rw [gb] at z; cases z), g.n⟩
end
section
variable {K : PySem.W.Frag} {σ : L2.St} {b : Addr} {G H : Hp} {te : TE} {E : XK} {i0 : Nat}
/-- f(box, a drawn thing) -/
theorem ebn_callB {P1 : Rp → Prop} {P : List Rp → Prop} {R : List V → Hp → (List Rp → Prop) → Prop} (hv : σ[i0]? = some (some (.ref b))) (h : EvB K te σ b G P1) (hs : ∀ r v G2, P1 r → Ex G G2 → r.p v G2 → ∃ P', R [v] G2 P' ∧ ∀ rs, P' rs → P rs) : EvBN K (tCall (spBN K R) [] E (tCons (tVar i0) (tCons te tNil))) σ b G P := fun H e gb hb Q q =>
  ⟨.ref b, hv, h H e gb hb _ fun r v G2 H2 p g hb2 hr => by
    show spBN K R ([V.ref b, v] ++ []) H2 Q E
    rw [List.append_nil]
    obtain ⟨P', hR, hP⟩ := hs r v G2 p g.g hr
    have gb2 : G2 b = none := g.out gb hb.at_
    exact ⟨G2, b, [v], P', rfl, g.i, gb2, hb2, hR, fun rs' p' vs G3 H3 p3 g3 hb3 hp gp h3 ra => q rs' p' vs G3 H3 (hP rs' p3) (g.trans gb hb.at_ g3 hb2.at_) hb3 (g.fresh hb2.at_ hp).1 gp h3 ra⟩⟩
end
end Mu

theorem L2.Room.u65 {k : Nat} {A : PySem.Around} (r : L2.Room k A) : A.units + 65 < PySem.cLine := by have := r.un; omega
namespace Mu
open PySem PySem.Spec PyProof.Rows L2 Evl
section
variable {X : Cx} (K : PySem.W.Frag)
theorem op_inDK (hu : X.A.units + 65 < cLine) (hK : X.K = K := by rfl) : OpR X (compareOp .In) (rInD K) := hK ▸ op_inD hu
theorem op_notInDK (hu : X.A.units + 65 < cLine) (hK : X.K = K := by rfl) : OpR X (compareOp .NotIn) (rNotInD K) := hK ▸ op_notInD hu
end
section
variable {K : PySem.W.Frag} {σ : L2.St} {G H : Hp} {ta tb : TE}
theorem any_p (p : Nat × Nat) (l : List (Nat × Nat)) : ((l.map dP).any fun z => PyData.eqv z (dP p)) = decide (p ∈ l) := by
  rw [List.any_map, Bool.eq_iff_iff, List.any_eq_true, decide_eq_true_iff]
  constructor
  · rintro ⟨x, hx, h⟩
    have h2 : PyData.eqv (dP x) (dP p) = true := h
    rw [eqv_p] at h2
    rw [← of_decide_eq_true h2]; exact hx
  · intro h
    exact ⟨p, h, by show PyData.eqv (dP p) (dP p) = true; rw [eqv_p]; simp⟩
theorem ev_notInP {p : Nat × Nat} {l : List (Nat × Nat)} (ha : EvD ta σ G (rP K p)) (hb : EvD tb σ G (rL K (l.map (rP K)))) : Ev (tOp (rNotInD K) ta tb) σ G (.bl (!decide (p ∈ l))) :=
  ev_op2 ha hb fun x y H hx hy Q q => ⟨dP p, l.map dP, asd_p p x H hx, asd_list asd_p l y H hy, (sh_p p).ok (by decide), (sh_list sh_p l).ok (by decide), by rw [any_p]; exact q⟩
theorem ev_inP {p : Nat × Nat} {l : List (Nat × Nat)} (ha : EvD ta σ G (rP K p)) (hb : EvD tb σ G (rL K (l.map (rP K)))) : Ev (tOp (rInD K) ta tb) σ G (.bl (decide (p ∈ l))) :=
  ev_op2 ha hb fun x y H hx hy Q q => ⟨dP p, l.map dP, asd_p p x H hx, asd_list asd_p l y H hy, (sh_p p).ok (by decide), (sh_list sh_p l).ok (by decide), by rw [any_p]; exact q⟩
theorem et_notInP {p : Nat × Nat} {l : List (Nat × Nat)} (ha : EvD ta σ G (rP K p)) (hb : EvD tb σ G (rL K (l.map (rP K)))) : EvT (tTest (tOp (rNotInD K) ta tb)) σ G (!decide (p ∈ l)) := et_test (ev_notInP ha hb)
theorem et_inP {p : Nat × Nat} {l : List (Nat × Nat)} (ha : EvD ta σ G (rP K p)) (hb : EvD tb σ G (rL K (l.map (rP K)))) : EvT (tTest (tOp (rInD K) ta tb)) σ G (decide (p ∈ l)) := et_test (ev_inP ha hb)
theorem ev_isB {a b : Bool} (ha : Ev ta σ G (.bl a)) (hb : Ev tb σ G (.bl b)) : Ev (tOp rIsB ta tb) σ G (.bl (decide (a = b))) :=
  ev_op2 (Ev.d ha) (Ev.d hb) fun x y H hx hy Q q => ⟨a, b, hx, hy, q⟩
theorem ev_isNB {a b : Bool} (ha : Ev ta σ G (.bl a)) (hb : Ev tb σ G (.bl b)) : Ev (tOp rNotB ta tb) σ G (.bl (!decide (a = b))) :=
  ev_op2 (Ev.d ha) (Ev.d hb) fun x y H hx hy Q q => ⟨a, b, hx, hy, q⟩
theorem Gr.outB {b : Addr} {G2 H2 : Hp} (g : Gr G H G2 H2) (gb : G b = none) (hb : Box K G H b) : G2 b = none := by
  obtain ⟨o, z⟩ := hb.at_
  exact g.n b o z gb
theorem Ev.is {x y : V} {te : TE} (h : Ev te σ G x) (e : x = y) : Ev te σ G y := e ▸ h
end
theorem s_box {K : PySem.W.Frag} {σ : L2.St} {H : Hp} {D : Ends} {E : XK} {a : Addr} {ns : List Int} {i i0 : Nat} (hv : σ[i0]? = some (some (.ref a))) (hS : SqL K H a (ns.map V.int)) (hl : ns.length ≤ 63) (k : ∀ b G2 H2, Ex H G2 → Ex G2 H2 → H b = none → G2 b = none → Box K G2 H2 b → D.nx (σ.set i (some (.ref b))) H2) : tAsg (tCall (spBoxMk K) [] E (tCons (tVar i0) tNil)) (gName i) D σ H :=
  ⟨.ref a, hv, a, ns, rfl, hS, hl, k⟩
/-! ### a comprehension within a comprehension -/
theorem look_re {env : Env} : ∀ {names : List (Str × NameKind)} {x : Str} {k : NameKind}, names.lookup x = some k →
    (names.map fun (n, k) => if (k == NameKind.free && env.scope.kind == .function && env.kindOf n == some .cell) then (n, NameKind.cell) else (n, k)).lookup x = some k ∨ (k = .free ∧ (names.map fun (n, k) => if (k == NameKind.free && env.scope.kind == .function && env.kindOf n == some .cell) then (n, NameKind.cell) else (n, k)).lookup x = some .cell)
  | [], _, _, h => by simp at h
  | (n, k) :: r, x, k', h => by
    have ih := @look_re env r x k'
    show List.lookup x ((if (k == NameKind.free && env.scope.kind == .function && env.kindOf n == some .cell) = true then (n, NameKind.cell) else (n, k)) :: _) = _ ∨ (_ ∧ List.lookup x ((if (k == NameKind.free && env.scope.kind == .function && env.kindOf n == some .cell) = true then (n, NameKind.cell) else (n, k)) :: _) = _)
    by_cases hc : (k == NameKind.free && env.scope.kind == .function && env.kindOf n == some .cell) = true
    · rw [if_pos hc]
      cases hx : x == n with
      | true =>
        simp only [List.lookup_cons, hx] at h
        have hk : k = .free := by
          simp only [Bool.and_eq_true] at hc
          exact eq_of_beq hc.1.1
        refine .inr ⟨by rw [← Option.some.inj h, hk], by simp [List.lookup_cons, hx]⟩
      | false =>
        simp only [List.lookup_cons, hx] at h ⊢
        exact ih h
    · rw [if_neg hc]
      cases hx : x == n with
      | true =>
        simp only [List.lookup_cons, hx] at h ⊢
        exact .inl h
      | false =>
        simp only [List.lookup_cons, hx] at h ⊢
        exact ih h
theorem vis_re {sc : Scope} {env : Env} {x : Str} (h : Vis sc x) : Vis (relabel sc env) x := by
  rcases h with h | h | h
  · rcases look_re (env := env) h with q | ⟨q, _⟩
    · exact .inl q
    · cases q
  · rcases look_re (env := env) h with q | ⟨q, _⟩
    · exact .inr (.inl q)
    · cases q
  · rcases look_re (env := env) h with q | ⟨_, q⟩
    · exact .inr (.inr q)
    · exact .inr (.inl q)
theorem blkOk_re {N : List Str} {sc scope : Scope} {own : List (Str × Nat)} {env : Env} (h : BlkOk N sc scope own) : BlkOk N (relabel sc env) scope own :=
  ⟨h.kind, h.uniq, h.ix, fun y hy e => by
    rcases h.free y hy e with q | q
    · rcases look_re (env := env) q with q | ⟨q, _⟩
      · exact .inl q
      · cases q
    · rcases look_re (env := env) q with q | ⟨_, q⟩
      · exact .inr q
      · exact .inl q, h.own⟩
section
variable {X : Cx}
/-- a name within a block -/
theorem pvB (i : Nat) {sc : Scope} {env : Env} {x : Str} {pos : Pos} (hN : X.N[i]? = some x := by rfl) (hv : Vis sc x := by first | exact Or.inl rfl | exact Or.inr (Or.inl rfl) | exact Or.inr (Or.inr rfl)) (hd : (x == ("__debug__" : Str)) = false := by decide)
    (hcd : (x == ("__classdict__" : Str)) = false := by decide) (hs : X.env.scope = relabel sc env := by rfl) : PE X (.Name x pos) (tVar i) := pe_var hN (hs ▸ vis_re hv) hd hcd
end
/-! ### masks -/
theorem bits_acc (f : Nat → Bool) (n : Nat) : bitsN (accTo f n) = (List.range n).filter f := by
  rw [← bits_eq (accTo_lt f n)]
  refine List.filter_congr fun a ha => ?_
  rw [accTo_bit, decide_eq_true (List.mem_range.mp ha)]; rfl
def insideN (f w : List Nat) : Bool := (List.range f.length).all fun i => subN (f.getD i 0) (w.getD i 0)
theorem insideN_iff {n : Nat} {f w : List Nat} (wf : Wf n f) : insideN f w = true ↔ ∀ a b, bitOf f a b = true → bitOf w a b = true := by
  unfold insideN
  rw [List.all_eq_true]
  constructor
  · intro h a b hb
    have ha := (wf.bit hb).1
    exact (subN_iff _ _).mp (h a (List.mem_range.mpr (by rw [wf.len]; exact ha))) b hb
  · intro h a _
    exact (subN_iff _ _).mpr fun b hb => h a b hb
theorem inside_behind {n : Nat} {F M W : List Nat} (wf : Wf n F) (wm : Wf n M) (ww : Wf n W) : insideN (prodN F M) W = insideN M (behindN F W) := by
  rw [Bool.eq_iff_iff, insideN_iff (prodN_wf wf wm), insideN_iff wm]
  constructor
  · intro h mid c hb
    obtain ⟨hm, hc⟩ := wm.bit hb
    exact (behindN_bit wf hm).mpr ⟨hc, fun j hj q => h j c ((prodN_bit wf wm hj).mpr ⟨mid, hm, q, hb⟩)⟩
  · intro h a c hb
    have ha := ((prodN_wf wf wm).bit hb).1
    obtain ⟨b, hb', q1, q2⟩ := (prodN_bit wf wm ha).mp hb
    exact ((behindN_bit wf hb').mp (h b c q2)).2 a ha q1
theorem inside_ahead {n : Nat} {F M W : List Nat} (wf : Wf n F) (wm : Wf n M) (ww : Wf n W) : insideN (prodN F M) W = insideN F (aheadN W M) := by
  rw [Bool.eq_iff_iff, insideN_iff (prodN_wf wf wm), insideN_iff wf]
  constructor
  · intro h a b hb
    obtain ⟨ha, hb'⟩ := wf.bit hb
    exact (aheadN_bit ww ha).mpr ⟨hb', fun c q => h a c ((prodN_bit wf wm ha).mpr ⟨b, hb', hb, q⟩)⟩
  · intro h a c hb
    have ha := ((prodN_wf wf wm).bit hb).1
    obtain ⟨b, hb', q1, q2⟩ := (prodN_bit wf wm ha).mp hb
    exact ((aheadN_bit ww ha).mp (h a b q1)).2 c q2
theorem inside_self {n : Nat} {F : List Nat} (wf : Wf n F) : insideN F F = true := (insideN_iff wf).mpr fun _ _ h => h
theorem mem_pairs {m : List Nat} {p : Nat × Nat} : p ∈ pairsN m ↔ p.1 < m.length ∧ bitOf m p.1 p.2 = true := by
  unfold pairsN
  rw [List.mem_flatMap]
  constructor
  · rintro ⟨a, ha, h⟩
    obtain ⟨b, hb, rfl⟩ := List.mem_map.mp h
    exact ⟨List.mem_range.mp ha, mem_bits.mp hb⟩
  · rintro ⟨h1, h2⟩
    exact ⟨p.1, List.mem_range.mpr h1, List.mem_map.mpr ⟨p.2, mem_bits.mpr h2, rfl⟩⟩
theorem due_inside {n : Nat} {J W : List Nat} (wj : Wf n J) (ww : Wf n W) : decide (((pairsN J).filter fun p => !decide (p ∈ pairsN W)).length = 0) = insideN J W := by
  rw [Bool.eq_iff_iff, decide_eq_true_iff, insideN_iff wj]
  constructor
  · intro h a b hb
    have h1 := List.filter_eq_nil_iff.mp (List.eq_nil_of_length_eq_zero h) (a, b) (mem_pairs.mpr ⟨by rw [wj.len]; exact (wj.bit hb).1, hb⟩)
    by_cases q : (a, b) ∈ pairsN W
    · exact (mem_pairs.mp q).2
    · exact absurd (by rw [decide_eq_false q]; rfl) h1
  · intro h
    rw [List.filter_eq_nil_iff.mpr fun p hp => ?_]
    · rfl
    · obtain ⟨h1, h2⟩ := mem_pairs.mp hp
      rw [decide_eq_true (mem_pairs.mpr ⟨by rw [ww.len, ← wj.len]; exact h1, h p.1 p.2 h2⟩)]
      simp
def pairsTo (m : List Nat) (i : Nat) : List (Nat × Nat) := (List.range i).flatMap fun a => (bitsN (m.getD a 0)).map fun b => (a, b)
theorem pairsTo_succ (m : List Nat) (i : Nat) : pairsTo m (i + 1) = pairsTo m i ++ (bitsN (m.getD i 0)).map fun b => (i, b) := by
  unfold pairsTo
  rw [List.range_succ, List.flatMap_append]
  simp
theorem pairsTo_len {m : List Nat} {n : Nat} (h : ∀ a, (m.getD a 0) < 2 ^ n) (i : Nat) : (pairsTo m i).length ≤ i * n := by
  induction i with
  | zero => simp [pairsTo]
  | succ i ih =>
    rw [pairsTo_succ, List.length_append, List.length_map, Nat.succ_mul]
    have := bits_len (h i)
    omega
theorem set_wf {n : Nat} {m : List Nat} (h : Wf n m) {x : Nat} (hx : x < 2 ^ n) (i : Nat) : Wf n (m.set i x) := ⟨by rw [List.length_set]; exact h.len, fun y hy => by
  rcases List.mem_or_eq_of_mem_set hy with q | q
  · exact h.lt y q
  · rw [q]; exact hx⟩
theorem prodN_take {F M : List Nat} {i fm : Nat} (h : F[i]? = some fm) : prodN (F.take (i + 1)) M = prodN (F.take i) M ++ [imageN M fm] := by
  unfold prodN
  rw [List.take_add_one, h, List.map_append]; rfl
theorem rows_tab (n : Nat) (c : Nat → Nat → Bool) : ∃ M, Wf n M ∧ M.map bitsN = (List.range n).map fun a => (List.range n).filter (c a) := ⟨tabOf n c, tabOf_wf n c, tabOf_bits⟩
end Mu

namespace MuL
open PySem PySem.Spec PyProof.Rows L2 He Evl Mu
def top (i : Nat) : Stmt := PySem.Challenge.pw_murmurline_k10_whole_fits_behind.main.body.getD i (.Pass ⟨0, 0, 0, 0⟩)
abbrev s_bits : Stmt := top 8
abbrev s_mask_of : Stmt := top 9
abbrev s_masks_of : Stmt := top 10
abbrev s_image : Stmt := top 11
abbrev s_product : Stmt := top 12
abbrev s_check_size : Stmt := top 18
abbrev s_Table___init__ : Stmt := inClass (top 24) 1
abbrev s_table_of_masks : Stmt := top 23
abbrev s_Table_rows : Stmt := inClass (top 24) 6
abbrev s_check_sizes : Stmt := top 21
abbrev s_product_inside : Stmt := top 25
abbrev s_Table___le__ : Stmt := inClass (top 24) 20
abbrev s_Table___mul__ : Stmt := inClass (top 24) 22
abbrev s_greatest_behind : Stmt := top 14
abbrev s_greatest_ahead : Stmt := top 15
abbrev s_Table___rshift__ : Stmt := inClass (top 24) 26
abbrev s_Table___lshift__ : Stmt := inClass (top 24) 27
abbrev s__law_box : Stmt := top 27
abbrev s__law_take : Stmt := top 28
abbrev s__law_words : Stmt := top 29
abbrev s__law_rows : Stmt := top 30
abbrev s__law_is : Stmt := top 33
abbrev s__law_join : Stmt := top 31
abbrev s__law_pairs : Stmt := top 32
abbrev s_law : Stmt := top 34
def d_bits : He.DefD := ⟨("bits", none), "bits", "bits", defArgs s_bits, defBody s_bits, defScope s_bits, [], []⟩
def d_mask_of : He.DefD := ⟨("mask_of", none), "mask_of", "mask_of", defArgs s_mask_of, defBody s_mask_of, defScope s_mask_of, [], []⟩
def d_masks_of : He.DefD := ⟨("masks_of", none), "masks_of", "masks_of", defArgs s_masks_of, defBody s_masks_of, defScope s_masks_of, [], []⟩
def d_image : He.DefD := ⟨("image", none), "image", "image", defArgs s_image, defBody s_image, defScope s_image, [], []⟩
def d_product : He.DefD := ⟨("product", none), "product", "product", defArgs s_product, defBody s_product, defScope s_product, [], []⟩
def d_check_size : He.DefD := ⟨("check_size", none), "check_size", "check_size", defArgs s_check_size, defBody s_check_size, defScope s_check_size, [], []⟩
def d_Table___init__ : He.DefD := ⟨("Table", some "__init__"), "__init__", "Table.__init__", defArgs s_Table___init__, defBody s_Table___init__, defScope s_Table___init__, [], []⟩
def d_table_of_masks : He.DefD := ⟨("table_of_masks", none), "table_of_masks", "table_of_masks", defArgs s_table_of_masks, defBody s_table_of_masks, defScope s_table_of_masks, [], []⟩
def d_Table_rows : He.DefD := ⟨("Table", some "rows"), "rows", "Table.rows", defArgs s_Table_rows, defBody s_Table_rows, defScope s_Table_rows, [], []⟩
def d_check_sizes : He.DefD := ⟨("check_sizes", none), "check_sizes", "check_sizes", defArgs s_check_sizes, defBody s_check_sizes, defScope s_check_sizes, [], []⟩
def d_product_inside : He.DefD := ⟨("product_inside", none), "product_inside", "product_inside", defArgs s_product_inside, defBody s_product_inside, defScope s_product_inside, [], []⟩
def d_Table___le__ : He.DefD := ⟨("Table", some "__le__"), "__le__", "Table.__le__", defArgs s_Table___le__, defBody s_Table___le__, defScope s_Table___le__, [], []⟩
def d_Table___mul__ : He.DefD := ⟨("Table", some "__mul__"), "__mul__", "Table.__mul__", defArgs s_Table___mul__, defBody s_Table___mul__, defScope s_Table___mul__, [], []⟩
def d_greatest_behind : He.DefD := ⟨("greatest_behind", none), "greatest_behind", "greatest_behind", defArgs s_greatest_behind, defBody s_greatest_behind, defScope s_greatest_behind, [], []⟩
def d_greatest_ahead : He.DefD := ⟨("greatest_ahead", none), "greatest_ahead", "greatest_ahead", defArgs s_greatest_ahead, defBody s_greatest_ahead, defScope s_greatest_ahead, [], []⟩
def d_Table___rshift__ : He.DefD := ⟨("Table", some "__rshift__"), "__rshift__", "Table.__rshift__", defArgs s_Table___rshift__, defBody s_Table___rshift__, defScope s_Table___rshift__, [], []⟩
def d_Table___lshift__ : He.DefD := ⟨("Table", some "__lshift__"), "__lshift__", "Table.__lshift__", defArgs s_Table___lshift__, defBody s_Table___lshift__, defScope s_Table___lshift__, [], []⟩
def d__law_box : He.DefD := ⟨("_law_box", none), "_law_box", "_law_box", defArgs s__law_box, defBody s__law_box, defScope s__law_box, [], []⟩
def d__law_take : He.DefD := ⟨("_law_take", none), "_law_take", "_law_take", defArgs s__law_take, defBody s__law_take, defScope s__law_take, [], []⟩
def d__law_words : He.DefD := ⟨("_law_words", none), "_law_words", "_law_words", defArgs s__law_words, defBody s__law_words, defScope s__law_words, [], []⟩
def d__law_rows : He.DefD := ⟨("_law_rows", none), "_law_rows", "_law_rows", defArgs s__law_rows, defBody s__law_rows, defScope s__law_rows, [], []⟩
def d__law_is : He.DefD := ⟨("_law_is", none), "_law_is", "_law_is", defArgs s__law_is, defBody s__law_is, defScope s__law_is, [], []⟩
def d__law_join : He.DefD := ⟨("_law_join", none), "_law_join", "_law_join", defArgs s__law_join, defBody s__law_join, defScope s__law_join, [], []⟩
def d__law_pairs : He.DefD := ⟨("_law_pairs", none), "_law_pairs", "_law_pairs", defArgs s__law_pairs, defBody s__law_pairs, defScope s__law_pairs, [], []⟩
def d_law : He.DefD := ⟨("law", none), "law", "law", defArgs s_law, defBody s_law, defScope s_law, [], []⟩
structure Tx (K : PySem.W.Frag) (mg : Str → Option Value) where
  C_Table : Addr
  g_Table : mg "Table" = some (.ref C_Table)
  c_Table : Cls K C_Table
  ic_Table : Mu.IsC K C_Table
  sf_Table : PySem.W.selfFirst K C_Table = true
  na_Table_size : NoAttr K C_Table "size"
  na_Table_masks : NoAttr K C_Table "masks"
  na_Table_cells : NoAttr K C_Table "cells"
  f_bits : Addr
  fd_bits : FuncData
  F_bits : FunD K "bits" "bits" (defArgs s_bits) (defBody s_bits) (defScope s_bits) [] [] f_bits fd_bits
  g_bits : mg "bits" = some (.ref f_bits)
  f_mask_of : Addr
  fd_mask_of : FuncData
  F_mask_of : FunD K "mask_of" "mask_of" (defArgs s_mask_of) (defBody s_mask_of) (defScope s_mask_of) [] [] f_mask_of fd_mask_of
  g_mask_of : mg "mask_of" = some (.ref f_mask_of)
  f_masks_of : Addr
  fd_masks_of : FuncData
  F_masks_of : FunD K "masks_of" "masks_of" (defArgs s_masks_of) (defBody s_masks_of) (defScope s_masks_of) [] [] f_masks_of fd_masks_of
  g_masks_of : mg "masks_of" = some (.ref f_masks_of)
  f_image : Addr
  fd_image : FuncData
  F_image : FunD K "image" "image" (defArgs s_image) (defBody s_image) (defScope s_image) [] [] f_image fd_image
  g_image : mg "image" = some (.ref f_image)
  f_product : Addr
  fd_product : FuncData
  F_product : FunD K "product" "product" (defArgs s_product) (defBody s_product) (defScope s_product) [] [] f_product fd_product
  g_product : mg "product" = some (.ref f_product)
  f_check_size : Addr
  fd_check_size : FuncData
  F_check_size : FunD K "check_size" "check_size" (defArgs s_check_size) (defBody s_check_size) (defScope s_check_size) [] [] f_check_size fd_check_size
  g_check_size : mg "check_size" = some (.ref f_check_size)
  f_Table___init__ : Addr
  fd_Table___init__ : FuncData
  F_Table___init__ : FunD K "__init__" "Table.__init__" (defArgs s_Table___init__) (defBody s_Table___init__) (defScope s_Table___init__) [] [] f_Table___init__ fd_Table___init__
  mk_Table : Mk K C_Table f_Table___init__
  f_table_of_masks : Addr
  fd_table_of_masks : FuncData
  F_table_of_masks : FunD K "table_of_masks" "table_of_masks" (defArgs s_table_of_masks) (defBody s_table_of_masks) (defScope s_table_of_masks) [] [] f_table_of_masks fd_table_of_masks
  g_table_of_masks : mg "table_of_masks" = some (.ref f_table_of_masks)
  f_Table_rows : Addr
  fd_Table_rows : FuncData
  F_Table_rows : FunD K "rows" "Table.rows" (defArgs s_Table_rows) (defBody s_Table_rows) (defScope s_Table_rows) [] [] f_Table_rows fd_Table_rows
  M_Table_rows : Meth K C_Table "rows" f_Table_rows
  d_Table_rows : Mu.Dun K C_Table "rows" f_Table_rows
  f_check_sizes : Addr
  fd_check_sizes : FuncData
  F_check_sizes : FunD K "check_sizes" "check_sizes" (defArgs s_check_sizes) (defBody s_check_sizes) (defScope s_check_sizes) [] [] f_check_sizes fd_check_sizes
  g_check_sizes : mg "check_sizes" = some (.ref f_check_sizes)
  f_product_inside : Addr
  fd_product_inside : FuncData
  F_product_inside : FunD K "product_inside" "product_inside" (defArgs s_product_inside) (defBody s_product_inside) (defScope s_product_inside) [] [] f_product_inside fd_product_inside
  g_product_inside : mg "product_inside" = some (.ref f_product_inside)
  f_Table___le__ : Addr
  fd_Table___le__ : FuncData
  F_Table___le__ : FunD K "__le__" "Table.__le__" (defArgs s_Table___le__) (defBody s_Table___le__) (defScope s_Table___le__) [] [] f_Table___le__ fd_Table___le__
  M_Table___le__ : Meth K C_Table "__le__" f_Table___le__
  d_Table___le__ : Mu.Dun K C_Table "__le__" f_Table___le__
  f_Table___mul__ : Addr
  fd_Table___mul__ : FuncData
  F_Table___mul__ : FunD K "__mul__" "Table.__mul__" (defArgs s_Table___mul__) (defBody s_Table___mul__) (defScope s_Table___mul__) [] [] f_Table___mul__ fd_Table___mul__
  M_Table___mul__ : Meth K C_Table "__mul__" f_Table___mul__
  d_Table___mul__ : Mu.Dun K C_Table "__mul__" f_Table___mul__
  f_greatest_behind : Addr
  fd_greatest_behind : FuncData
  F_greatest_behind : FunD K "greatest_behind" "greatest_behind" (defArgs s_greatest_behind) (defBody s_greatest_behind) (defScope s_greatest_behind) [] [] f_greatest_behind fd_greatest_behind
  g_greatest_behind : mg "greatest_behind" = some (.ref f_greatest_behind)
  f_greatest_ahead : Addr
  fd_greatest_ahead : FuncData
  F_greatest_ahead : FunD K "greatest_ahead" "greatest_ahead" (defArgs s_greatest_ahead) (defBody s_greatest_ahead) (defScope s_greatest_ahead) [] [] f_greatest_ahead fd_greatest_ahead
  g_greatest_ahead : mg "greatest_ahead" = some (.ref f_greatest_ahead)
  f_Table___rshift__ : Addr
  fd_Table___rshift__ : FuncData
  F_Table___rshift__ : FunD K "__rshift__" "Table.__rshift__" (defArgs s_Table___rshift__) (defBody s_Table___rshift__) (defScope s_Table___rshift__) [] [] f_Table___rshift__ fd_Table___rshift__
  M_Table___rshift__ : Meth K C_Table "__rshift__" f_Table___rshift__
  d_Table___rshift__ : Mu.Dun K C_Table "__rshift__" f_Table___rshift__
  f_Table___lshift__ : Addr
  fd_Table___lshift__ : FuncData
  F_Table___lshift__ : FunD K "__lshift__" "Table.__lshift__" (defArgs s_Table___lshift__) (defBody s_Table___lshift__) (defScope s_Table___lshift__) [] [] f_Table___lshift__ fd_Table___lshift__
  M_Table___lshift__ : Meth K C_Table "__lshift__" f_Table___lshift__
  d_Table___lshift__ : Mu.Dun K C_Table "__lshift__" f_Table___lshift__
  f__law_box : Addr
  fd__law_box : FuncData
  F__law_box : FunD K "_law_box" "_law_box" (defArgs s__law_box) (defBody s__law_box) (defScope s__law_box) [] [] f__law_box fd__law_box
  g__law_box : mg "_law_box" = some (.ref f__law_box)
  f__law_take : Addr
  fd__law_take : FuncData
  F__law_take : FunD K "_law_take" "_law_take" (defArgs s__law_take) (defBody s__law_take) (defScope s__law_take) [] [] f__law_take fd__law_take
  g__law_take : mg "_law_take" = some (.ref f__law_take)
  f__law_words : Addr
  fd__law_words : FuncData
  F__law_words : FunD K "_law_words" "_law_words" (defArgs s__law_words) (defBody s__law_words) (defScope s__law_words) [] [] f__law_words fd__law_words
  g__law_words : mg "_law_words" = some (.ref f__law_words)
  f__law_rows : Addr
  fd__law_rows : FuncData
  F__law_rows : FunD K "_law_rows" "_law_rows" (defArgs s__law_rows) (defBody s__law_rows) (defScope s__law_rows) [] [] f__law_rows fd__law_rows
  g__law_rows : mg "_law_rows" = some (.ref f__law_rows)
  f__law_is : Addr
  fd__law_is : FuncData
  F__law_is : FunD K "_law_is" "_law_is" (defArgs s__law_is) (defBody s__law_is) (defScope s__law_is) [] [] f__law_is fd__law_is
  g__law_is : mg "_law_is" = some (.ref f__law_is)
  f__law_join : Addr
  fd__law_join : FuncData
  F__law_join : FunD K "_law_join" "_law_join" (defArgs s__law_join) (defBody s__law_join) (defScope s__law_join) [] [] f__law_join fd__law_join
  g__law_join : mg "_law_join" = some (.ref f__law_join)
  f__law_pairs : Addr
  fd__law_pairs : FuncData
  F__law_pairs : FunD K "_law_pairs" "_law_pairs" (defArgs s__law_pairs) (defBody s__law_pairs) (defScope s__law_pairs) [] [] f__law_pairs fd__law_pairs
  g__law_pairs : mg "_law_pairs" = some (.ref f__law_pairs)
  f_law : Addr
  fd_law : FuncData
  F_law : FunD K "law" "law" (defArgs s_law) (defBody s_law) (defScope s_law) [] [] f_law fd_law
  g_law : mg "law" = some (.ref f_law)
  m_len : mg "len" = none
  m_range : mg "range" = none
  m_tuple : mg "tuple" = none
  m_list : mg "list" = none
  m_int : mg "int" = none
  m_abs : mg "abs" = none
  m_enumerate : mg "enumerate" = none
  m_isinstance : mg "isinstance" = none
  m_bool : mg "bool" = none
  m_str : mg "str" = none
  m_iter : mg "iter" = none
  gi_GREATEST_SIZE : ∃ t, mg "GREATEST_SIZE" = some (.int 6 t)
def fa : List He.Fa := [.glo "Table", .cls "Table", .cls "Table", .noat "Table" "size", .noat "Table" "masks", .noat "Table" "cells", .glo "bits", .glo "mask_of", .glo "masks_of", .glo "image", .glo "product", .glo "check_size", .mkr "Table", .glo "table_of_masks", .meth "Table" "rows", .glo "check_sizes", .glo "product_inside", .meth "Table" "__le__", .meth "Table" "__mul__", .glo "greatest_behind", .glo "greatest_ahead", .meth "Table" "__rshift__", .meth "Table" "__lshift__", .glo "_law_box", .glo "_law_take", .glo "_law_words", .glo "_law_rows", .glo "_law_is", .glo "_law_join", .glo "_law_pairs", .glo "law", .free "len", .free "range", .free "tuple", .free "list", .free "int", .free "abs", .free "enumerate", .free "isinstance", .free "bool", .free "str", .free "iter", .int "GREATEST_SIZE" 6]
def ex : List Mu.FactB := [(fun K => Mu.isCB K (ga K "Table")), (fun K => PySem.W.selfFirst K (ga K "Table"))]
def fn : List He.DefD := [d_bits, d_mask_of, d_masks_of, d_image, d_product, d_check_size, d_Table___init__, d_table_of_masks, d_Table_rows, d_check_sizes, d_product_inside, d_Table___le__, d_Table___mul__, d_greatest_behind, d_greatest_ahead, d_Table___rshift__, d_Table___lshift__, d__law_box, d__law_take, d__law_words, d__law_rows, d__law_is, d__law_join, d__law_pairs, d_law]
theorem mkTx {K : PySem.W.Frag} {h : Heap} {mg : Str → Option Value} (X : K.In h) (G : h.Ns mainGlobals mg) (c : Mu.SaysM fa ex fn K) : ∃ T : Tx K mg, T.f_law = fAd K ("law", none) := by
  obtain ⟨fd_bits, F_bits⟩ := c.def_ 0 (d := d_bits) rfl
  obtain ⟨fd_mask_of, F_mask_of⟩ := c.def_ 1 (d := d_mask_of) rfl
  obtain ⟨fd_masks_of, F_masks_of⟩ := c.def_ 2 (d := d_masks_of) rfl
  obtain ⟨fd_image, F_image⟩ := c.def_ 3 (d := d_image) rfl
  obtain ⟨fd_product, F_product⟩ := c.def_ 4 (d := d_product) rfl
  obtain ⟨fd_check_size, F_check_size⟩ := c.def_ 5 (d := d_check_size) rfl
  obtain ⟨fd_Table___init__, F_Table___init__⟩ := c.def_ 6 (d := d_Table___init__) rfl
  obtain ⟨fd_table_of_masks, F_table_of_masks⟩ := c.def_ 7 (d := d_table_of_masks) rfl
  obtain ⟨fd_Table_rows, F_Table_rows⟩ := c.def_ 8 (d := d_Table_rows) rfl
  obtain ⟨fd_check_sizes, F_check_sizes⟩ := c.def_ 9 (d := d_check_sizes) rfl
  obtain ⟨fd_product_inside, F_product_inside⟩ := c.def_ 10 (d := d_product_inside) rfl
  obtain ⟨fd_Table___le__, F_Table___le__⟩ := c.def_ 11 (d := d_Table___le__) rfl
  obtain ⟨fd_Table___mul__, F_Table___mul__⟩ := c.def_ 12 (d := d_Table___mul__) rfl
  obtain ⟨fd_greatest_behind, F_greatest_behind⟩ := c.def_ 13 (d := d_greatest_behind) rfl
  obtain ⟨fd_greatest_ahead, F_greatest_ahead⟩ := c.def_ 14 (d := d_greatest_ahead) rfl
  obtain ⟨fd_Table___rshift__, F_Table___rshift__⟩ := c.def_ 15 (d := d_Table___rshift__) rfl
  obtain ⟨fd_Table___lshift__, F_Table___lshift__⟩ := c.def_ 16 (d := d_Table___lshift__) rfl
  obtain ⟨fd__law_box, F__law_box⟩ := c.def_ 17 (d := d__law_box) rfl
  obtain ⟨fd__law_take, F__law_take⟩ := c.def_ 18 (d := d__law_take) rfl
  obtain ⟨fd__law_words, F__law_words⟩ := c.def_ 19 (d := d__law_words) rfl
  obtain ⟨fd__law_rows, F__law_rows⟩ := c.def_ 20 (d := d__law_rows) rfl
  obtain ⟨fd__law_is, F__law_is⟩ := c.def_ 21 (d := d__law_is) rfl
  obtain ⟨fd__law_join, F__law_join⟩ := c.def_ 22 (d := d__law_join) rfl
  obtain ⟨fd__law_pairs, F__law_pairs⟩ := c.def_ 23 (d := d__law_pairs) rfl
  obtain ⟨fd_law, F_law⟩ := c.def_ 24 (d := d_law) rfl
  exact ⟨⟨ga K "Table", glo_ok X G (c.fact 0 (f := .glo "Table") rfl), cls_ok (c.fact 1 (f := .cls "Table") rfl), Mu.isCB_ok (cls_ok (c.fact 2 (f := .cls "Table") rfl)) (c.exf 0 (f := (fun K => Mu.isCB K (ga K "Table"))) rfl), (c.exf 1 (f := (fun K => PySem.W.selfFirst K (ga K "Table"))) rfl), noat_ok (c.fact 3 (f := .noat "Table" "size") rfl), noat_ok (c.fact 4 (f := .noat "Table" "masks") rfl), noat_ok (c.fact 5 (f := .noat "Table" "cells") rfl), fAd K ("bits", none), fd_bits, F_bits, glo_ok X G (c.fact 6 (f := .glo "bits") rfl), fAd K ("mask_of", none), fd_mask_of, F_mask_of, glo_ok X G (c.fact 7 (f := .glo "mask_of") rfl), fAd K ("masks_of", none), fd_masks_of, F_masks_of, glo_ok X G (c.fact 8 (f := .glo "masks_of") rfl), fAd K ("image", none), fd_image, F_image, glo_ok X G (c.fact 9 (f := .glo "image") rfl), fAd K ("product", none), fd_product, F_product, glo_ok X G (c.fact 10 (f := .glo "product") rfl), fAd K ("check_size", none), fd_check_size, F_check_size, glo_ok X G (c.fact 11 (f := .glo "check_size") rfl), fAd K ("Table", some "__init__"), fd_Table___init__, F_Table___init__, mkr_ok (c.fact 12 (f := .mkr "Table") rfl), fAd K ("table_of_masks", none), fd_table_of_masks, F_table_of_masks, glo_ok X G (c.fact 13 (f := .glo "table_of_masks") rfl), fAd K ("Table", some "rows"), fd_Table_rows, F_Table_rows, meth_ok (c.fact 14 (f := .meth "Table" "rows") rfl), ⟨(meth_ok (c.fact 14 (f := .meth "Table" "rows") rfl)).1, (meth_ok (c.fact 14 (f := .meth "Table" "rows") rfl)).2⟩, fAd K ("check_sizes", none), fd_check_sizes, F_check_sizes, glo_ok X G (c.fact 15 (f := .glo "check_sizes") rfl), fAd K ("product_inside", none), fd_product_inside, F_product_inside, glo_ok X G (c.fact 16 (f := .glo "product_inside") rfl), fAd K ("Table", some "__le__"), fd_Table___le__, F_Table___le__, meth_ok (c.fact 17 (f := .meth "Table" "__le__") rfl), ⟨(meth_ok (c.fact 17 (f := .meth "Table" "__le__") rfl)).1, (meth_ok (c.fact 17 (f := .meth "Table" "__le__") rfl)).2⟩, fAd K ("Table", some "__mul__"), fd_Table___mul__, F_Table___mul__, meth_ok (c.fact 18 (f := .meth "Table" "__mul__") rfl), ⟨(meth_ok (c.fact 18 (f := .meth "Table" "__mul__") rfl)).1, (meth_ok (c.fact 18 (f := .meth "Table" "__mul__") rfl)).2⟩, fAd K ("greatest_behind", none), fd_greatest_behind, F_greatest_behind, glo_ok X G (c.fact 19 (f := .glo "greatest_behind") rfl), fAd K ("greatest_ahead", none), fd_greatest_ahead, F_greatest_ahead, glo_ok X G (c.fact 20 (f := .glo "greatest_ahead") rfl), fAd K ("Table", some "__rshift__"), fd_Table___rshift__, F_Table___rshift__, meth_ok (c.fact 21 (f := .meth "Table" "__rshift__") rfl), ⟨(meth_ok (c.fact 21 (f := .meth "Table" "__rshift__") rfl)).1, (meth_ok (c.fact 21 (f := .meth "Table" "__rshift__") rfl)).2⟩, fAd K ("Table", some "__lshift__"), fd_Table___lshift__, F_Table___lshift__, meth_ok (c.fact 22 (f := .meth "Table" "__lshift__") rfl), ⟨(meth_ok (c.fact 22 (f := .meth "Table" "__lshift__") rfl)).1, (meth_ok (c.fact 22 (f := .meth "Table" "__lshift__") rfl)).2⟩, fAd K ("_law_box", none), fd__law_box, F__law_box, glo_ok X G (c.fact 23 (f := .glo "_law_box") rfl), fAd K ("_law_take", none), fd__law_take, F__law_take, glo_ok X G (c.fact 24 (f := .glo "_law_take") rfl), fAd K ("_law_words", none), fd__law_words, F__law_words, glo_ok X G (c.fact 25 (f := .glo "_law_words") rfl), fAd K ("_law_rows", none), fd__law_rows, F__law_rows, glo_ok X G (c.fact 26 (f := .glo "_law_rows") rfl), fAd K ("_law_is", none), fd__law_is, F__law_is, glo_ok X G (c.fact 27 (f := .glo "_law_is") rfl), fAd K ("_law_join", none), fd__law_join, F__law_join, glo_ok X G (c.fact 28 (f := .glo "_law_join") rfl), fAd K ("_law_pairs", none), fd__law_pairs, F__law_pairs, glo_ok X G (c.fact 29 (f := .glo "_law_pairs") rfl), fAd K ("law", none), fd_law, F_law, glo_ok X G (c.fact 30 (f := .glo "law") rfl), free_ok X G (c.fact 31 (f := .free "len") rfl), free_ok X G (c.fact 32 (f := .free "range") rfl), free_ok X G (c.fact 33 (f := .free "tuple") rfl), free_ok X G (c.fact 34 (f := .free "list") rfl), free_ok X G (c.fact 35 (f := .free "int") rfl), free_ok X G (c.fact 36 (f := .free "abs") rfl), free_ok X G (c.fact 37 (f := .free "enumerate") rfl), free_ok X G (c.fact 38 (f := .free "isinstance") rfl), free_ok X G (c.fact 39 (f := .free "bool") rfl), free_ok X G (c.fact 40 (f := .free "str") rfl), free_ok X G (c.fact 41 (f := .free "iter") rfl), int_ok X G (c.fact 42 (f := .int "GREATEST_SIZE" 6) rfl)⟩, rfl⟩
end MuL

namespace MuL
open PySem PySem.Spec PyProof.Rows L2 He Evl Mu
section
variable {P : Program} {w : World} {K : PySem.W.Frag} {mg : Str → Option Value} {base : Heap}
theorem sc_bits : FnScope ["mask", "found", "place"] ["mask"] (defScope s_bits) := ⟨rfl, rfl, rfl, by decide +kernel, rfl, by decide +kernel, by decide +kernel⟩
theorem b_bits (T : Tx K mg) : Binds K T.fd_bits ["mask"] [] := T.F_bits.bindsN fun _ _ _ _ _ _ us hl => match us, hl with | [_], _ => rfl
def R_bits : List V → Hp → List Rp → Prop := fun vs _ rs => ∃ n : Nat, vs = [.int (n : Int)] ∧ n < 2 ^ 64 ∧ rs = (bitsN n).map nI
theorem ok_bits (T : Tx K mg) : FnOk P w K mg base CX0 1 T.f_bits T.fd_bits ["mask"] (spN R_bits) := by
  refine T.F_bits.ok sc_bits (fun vs H Q E h => ?_) (fun cdv A outer s H vs Q E hr h => ?_)
  · obtain ⟨G, rs, _, ⟨n, rfl, _⟩, _⟩ := h
    rfl
  · obtain ⟨G, rs, e, ⟨n, rfl, hn, rfl⟩, k⟩ := h
    refine ⟨_, PSs.nox (pss_cons (ps_set (i := 1) sc_bits.nd rfl (Or.inl rfl) (pe_lst pa_nil))
      (pss_cons (ps_set (i := 2) sc_bits.nd rfl (Or.inl rfl) pe_int)
      (pss_cons (ps_while PassesOwn.never (pt_cmpR op_gt (pv 0) pe_int (nomark _)) (pss_cons (ps_if (pt_cmpR op_eq (pe_op op_and (pv 0) pe_int) pe_int (nomark _)) (pss_one (ps_expr (pe_bm PySem.F.plainAttrs_list PySem.F.slot_list_append PySem.F.type_list_append mt_append (pv 1) (pa_cons (pv 2) pa_nil)))) pss_nil)
      (pss_cons (ps_set (i := 0) sc_bits.nd rfl (Or.inl rfl) (pe_op op_shr (pv 0) pe_int))
      (pss_one (ps_set (i := 2) sc_bits.nd rfl (Or.inl rfl) (pe_op op_add (pv 2) pe_int))))))
      (pss_one (ps_ret (pv 1)))))), ?_⟩
    refine sq (s_setN e (en_lst ead_nil (by decide)) fun p vs G1 H1 g1 hp gp h1 ra => ?_)
    cases ra
    refine sq (Mu.s_set g1.i ev_c fun H2 e2 => ?_)
    refine sq (s_while (fun m σ' H' => ∃ i : Nat, σ' = [some (.int ((n / 2 ^ i : Nat) : Int)), some (.ref p), some (.int (i : Int))] ∧ m = n / 2 ^ i ∧ i ≤ 64 ∧ Ex H H' ∧ H' p = some (.lst (((List.range i).filter n.testBit).map fun (j : Nat) => V.int (j : Int)))) n ⟨0, ?_, by simp, by omega, g1.h.trans e2, e2 _ _ h1⟩ fun m σ' H' ⟨i, hσ, hm, hi, eH, hl⟩ => ?_)
    · simp; rfl
    · subst hσ
      refine ⟨_, et_cmp (ev_var rfl) ev_c, fun hb H3 e3 => ?_, fun hb H3 e3 => ?_⟩
      · have hpos : (0 : Int) < ((n / 2 ^ i : Nat) : Int) := of_decide_eq_true hb
        have hi64 : i < 64 := by
          rcases Nat.lt_or_ge i 64 with q | q
          · exact q
          · have e64 : i = 64 := by omega
            subst e64
            rw [Nat.div_eq_of_lt hn] at hpos
            omega
        refine ⟨_, fun _ _ z => z, ?_⟩
        have tl : ∀ H4 ls, Ex H H4 → H4 p = some (.lst ls) → ls = (((List.range (i + 1)).filter n.testBit).map fun (j : Nat) => V.int (j : Int)) → ∀ D : Ends,
            (∀ σ2 H2, (∃ m', m' < m ∧ ∃ i : Nat, σ2 = [some (.int ((n / 2 ^ i : Nat) : Int)), some (.ref p), some (.int (i : Int))] ∧ m' = n / 2 ^ i ∧ i ≤ 64 ∧ Ex H H2 ∧ H2 p = some (.lst (((List.range i).filter n.testBit).map fun (j : Nat) => V.int (j : Int)))) → D.nx σ2 H2) →
            tSeq (tAsg (tOp (rI (fun _ j => 0 ≤ j) fun i j => .int (i / 2 ^ j.toNat)) (tVar 0) (tC (.int 1))) (gName 0)) (tAsg (tOp (rI0 fun i j => .int (i + j)) (tVar 2) (tC (.int 1))) (gName 2)) D [some (.int ((n / 2 ^ i : Nat) : Int)), some (.ref p), some (.int (i : Int))] H4 := by
          intro H4 ls e4 h4 hls D hD
          refine sq (Mu.s_set (Ex.refl H4) (ev_op (ev_var rfl) ev_c (rv_I (by decide))) fun H5 e5 => ?_)
          refine Mu.s_set (Ex.refl H5) (ev_op (ev_var rfl) ev_c rv_I0) fun H6 e6 => ?_
          refine hD _ _ ⟨n / 2 ^ (i + 1), ?_, i + 1, ?_, rfl, by omega, (e4.trans e5).trans e6, by rw [e6 _ _ (e5 _ _ h4), hls]⟩
          · rw [hm, Nat.pow_succ, ← Nat.div_div_eq_div_mul]
            exact Nat.div_lt_self (by omega) (by decide)
          · rw [shr1, Nat.div_div_eq_div_mul, ← Nat.pow_succ]
            rfl
        refine sq (s_ifE (Ex.refl H3) (et_eq (ev_op (ev_var rfl) ev_c rv_I0) ev_c rfl) (fun hb H4 e4 => ?_) (fun hb H4 e4 => ?_))
        · have hbit : n.testBit i = true := by
            have q := of_decide_eq_true hb
            have q2 : Builtin.bitAnd ((n / 2 ^ i : Nat) : Int) 1 = 1 := by injection q
            rw [← bit_test, shr_nat]
            exact decide_eq_true q2
          have hl4 := e4 _ _ (e3 _ _ hl)
          refine s_app hl4 (ev_var rfl) (ev_var rfl) (by have := List.length_filter_le n.testBit (List.range i); rw [List.length_map]; rw [List.length_range] at this; omega) fun H5 e5 => ?_
          refine tl _ _ (Ex.mut ((eH.trans e3).trans (e4.trans e5)) hp) upd_same ?_ _ fun _ _ z => z
          rw [List.range_succ, List.filter_append, List.map_append]
          simp [hbit]
        · have hbit : n.testBit i = false := by
            have q := of_decide_eq_false hb
            cases z : n.testBit i with
            | false => rfl
            | true =>
              refine absurd ?_ q
              rw [← bit_test, shr_nat] at z
              rw [of_decide_eq_true z]
          refine nxt ?_
          refine tl H4 _ ((eH.trans e3).trans e4) (e4 _ _ (e3 _ _ hl)) ?_ _ fun _ _ z => z
          rw [List.range_succ, List.filter_append, List.map_append]
          simp [hbit]
      · have h0 : n / 2 ^ i = 0 := by
          have q := of_decide_eq_false hb
          omega
        have hlt : n < 2 ^ i := by
          rcases Nat.lt_or_ge n (2 ^ i) with q | q
          · exact q
          · have := Nat.div_pos q (Nat.two_pow_pos i)
            omega
        rw [bits_eq hlt] at hl
        refine s_retE (Ex.refl H3) (ev_var rfl) fun H4 e4 => ?_
        exact k p _ G H4 ((Gr.refl e).more ((eH.trans e3).trans e4)) hp (fresh_back e hp) (e4 _ _ (e3 _ _ hl)) ra_nats
theorem sc_mask_of : FnScope ["words", "mask", "word"] ["words"] (defScope s_mask_of) := ⟨rfl, rfl, rfl, by decide +kernel, rfl, by decide +kernel, by decide +kernel⟩
theorem b_mask_of (T : Tx K mg) : Binds K T.fd_mask_of ["words"] [] := T.F_mask_of.bindsN fun _ _ _ _ _ _ us hl => match us, hl with | [_], _ => rfl
def R_mask_of (K : PySem.W.Frag) : List V → Hp → Rp → Prop := fun vs G r => ∃ (x : V) (l : List Nat), vs = [x] ∧ (rLn K l).p x G ∧ (∀ w ∈ l, w < 64) ∧ r = nI (maskN l)
theorem ok_mask_of (T : Tx K mg) : FnOk P w K mg base CX0 1 T.f_mask_of T.fd_mask_of ["words"] (spD (R_mask_of K)) := by
  refine T.F_mask_of.ok sc_mask_of (fun vs H Q E h => ?_) (fun cdv A outer s H vs Q E hr h => ?_)
  · obtain ⟨G, r, _, ⟨x, l, rfl, _⟩, _⟩ := h
    rfl
  · obtain ⟨G, r, e, ⟨x, l, rfl, hx, hl, rfl⟩, k⟩ := h
    refine ⟨_, PSs.nox (pss_cons (ps_set (i := 1) sc_mask_of.nd rfl (Or.inl rfl) pe_int)
      (pss_cons (ps_for PassesOwn.never rfl (pi_listK K (pv 0)) (pg_name (i := 2) sc_mask_of.nd rfl (Or.inl rfl)) (pss_one (ps_set (i := 1) sc_mask_of.nd rfl (Or.inl rfl) (pe_op op_or (pv 1) (pe_op op_shl pe_int (pv 2))))))
      (pss_one (ps_ret (pv 1))))), ?_⟩
    refine sq (Mu.s_set e ev_c fun H1 e1 => ?_)
    refine sq (Mu.s_forL l nI (e.trans e1) (ed_var rfl hx) (fun G1 i σ' H' => Ex G1 H' ∧ Ex H H' ∧ ∃ u, σ' = [some x, some (.int ((maskN (l.take i) : Nat) : Int)), u]) (fun G1 H2 g => ⟨g.i, e1.trans g.h, none, rfl⟩) (fun _ _ _ _ p => p.1) ?_ ?_)
    · rintro G1 i w y σ' H' eG hi hy ⟨e2, e3, u, rfl⟩
      obtain rfl : y = V.int (w : Int) := hy
      have hw := hl w (List.mem_of_getElem? hi)
      refine Mu.s_set (Ex.refl H') (ev_op (ev_var rfl) (ev_op ev_c (ev_var rfl) (rv_I ⟨by omega, by omega, by decide⟩)) rv_I0) fun H4 e4 => ?_
      refine ⟨e2.trans e4, e3.trans e4, some (.int (w : Int)), ?_⟩
      show [some x, some (.int (Builtin.bitOr ((maskN (l.take i) : Nat) : Int) (1 * 2 ^ ((w : Int)).toNat))), some (.int (w : Int))] = _
      rw [shl_nat, bor_nat, ← maskN_take hi]
    · rintro G1 σ' H' eG ⟨e2, e3, u, rfl⟩
      rw [List.take_length]
      refine s_retE (Ex.refl H') (ev_var rfl) fun H4 e4 => k _ G H4 ((Gr.refl e).more (e3.trans e4)) rfl
theorem sc_masks_of : FnScope ["rows", "row"] ["rows"] (defScope s_masks_of) := ⟨rfl, rfl, rfl, by decide +kernel, rfl, by decide +kernel, by decide +kernel⟩
theorem b_masks_of (T : Tx K mg) : Binds K T.fd_masks_of ["rows"] [] := T.F_masks_of.bindsN fun _ _ _ _ _ _ us hl => match us, hl with | [_], _ => rfl
def R_masks_of (K : PySem.W.Frag) : List V → Hp → Rp → Prop := fun vs G r => ∃ (x : V) (l : List (List Nat)), vs = [x] ∧ (rLL K l).p x G ∧ l.length ≤ 1000 ∧ (∀ q ∈ l, ∀ w ∈ q, w < 64) ∧ r = rTn K (l.map maskN)
theorem ok_masks_of (T : Tx K mg) : FnOk P w K mg base CX0 2 T.f_masks_of T.fd_masks_of ["rows"] (spD (R_masks_of K)) := by
  refine T.F_masks_of.ok sc_masks_of (fun vs H Q E h => ?_) (fun cdv A outer s H vs Q E hr h => ?_)
  · obtain ⟨G, r, _, ⟨x, l, rfl, _⟩, _⟩ := h
    rfl
  · obtain ⟨G, r, e, ⟨x, l, rfl, hx, hn, hl, rfl⟩, k⟩ := h
    refine ⟨_, PSs.nox (pss_one (ps_ret (pe_callTy (call_tupK K) (by rfl) T.m_tuple (by decide +kernel) (pa_cons (pe_lc (own := [("row", 1)]) (by rfl) sc_masks_of.nd (pi_listK K (pv 0)) (blkOk_by (N := ["rows", "row"]) (sc := defScope s_masks_of) (by decide +kernel)) (fun _ _ _ _ _ => (pg_name (i := 1) sc_masks_of.nd rfl (Or.inl rfl))) (fun _ _ _ _ _ => pts_nil) (fun _ _ _ _ _ => (pe_call (ok_mask_of T) (hr.mono (by decide)) (by rfl) T.g_mask_of T.F_mask_of.kp (b_mask_of T) .nil pass0 (pa_cons (pv 1) pa_nil)))) pa_nil)))), ?_⟩
    refine s_retD e (ed_is (ed_tupL (EvN.d (en_lcL0 l (rLn K) (fun q => nI (maskN q)) (ed_var rfl hx) (by omega) (fun _ => rfl) fun q y G1 hq e1 hy => ed_call (ead_cons (ed_var rfl hy) ead_nil) fun vs G2 e2 ra => ?_))) ?_) fun v G2 H2 g hv => k v G2 H2 g hv
    · obtain ⟨y, rfl, hy⟩ := ra1 ra
      exact SpD.of ⟨y, q, rfl, hy, hl q hq, rfl⟩
    · unfold rTn
      rw [List.map_map]; rfl
theorem sc_image : FnScope ["masks", "words", "out", "word"] ["masks", "words"] (defScope s_image) := ⟨rfl, rfl, rfl, by decide +kernel, rfl, by decide +kernel, by decide +kernel⟩
theorem b_image (T : Tx K mg) : Binds K T.fd_image ["masks", "words"] [] := T.F_image.bindsN fun _ _ _ _ _ _ us hl => match us, hl with | [_, _], _ => rfl
def R_image (K : PySem.W.Frag) : List V → Hp → Rp → Prop := fun vs G r => ∃ (x : V) (m : List Nat) (w : Nat), vs = [x, .int (w : Int)] ∧ (rTn K m).p x G ∧ m.length ≤ 1000 ∧ r = nI (imageN m w)
theorem ok_image (T : Tx K mg) : FnOk P w K mg base CX0 1 T.f_image T.fd_image ["masks", "words"] (spD (R_image K)) := by
  refine T.F_image.ok sc_image (fun vs H Q E h => ?_) (fun cdv A outer s H vs Q E hr h => ?_)
  · obtain ⟨G, r, _, ⟨x, m, w, rfl, _⟩, _⟩ := h
    rfl
  · obtain ⟨G, r, e, ⟨x, m, w, rfl, hx, hl, rfl⟩, k⟩ := h
    refine ⟨_, PSs.nox (pss_cons (ps_set (i := 2) sc_image.nd rfl (Or.inl rfl) pe_int)
      (pss_cons (ps_for PassesOwn.never rfl (pi_range1 (by rfl) T.m_range (pa_cons (pe_callB (call_lenK K) (by rfl) T.m_len PySem.boot_len (pa_cons (pv 0) pa_nil)) pa_nil)) (pg_name (i := 3) sc_image.nd rfl (Or.inl rfl)) (pss_one (ps_if (pt_cmpR op_eq (pe_op op_and (pe_op op_shr (pv 1) (pv 3)) pe_int) pe_int (nomark _)) (pss_one (ps_set (i := 2) sc_image.nd rfl (Or.inl rfl) (pe_op op_or (pv 2) (pe_ix (ix_tupK K) (pv 0) (pv 3) (fun _ _ => rfl))))) pss_nil)))
      (pss_one (ps_ret (pv 2))))), ?_⟩
    refine sq (Mu.s_set e ev_c fun H1 e1 => ?_)
    refine sq (Mu.s_forR m.length (e.trans e1) (ea_cons (ev_lenT (ed_var rfl hx) (List.length_map _)) ea_nil) (by omega) (fun i σ' H' => Ex H H' ∧ ∃ u, σ' = [some x, some (.int (w : Int)), some (.int ((imageTo m w i : Nat) : Int)), u]) (fun H2 e2 => ⟨e1.trans e2, none, rfl⟩) ?_ ?_)
    · rintro i σ' H' hi ⟨e2, u, rfl⟩
      have eG := e.trans e2
      have hb := bit_test w i
      have hget : (m.map nI)[i]? = some (nI (m.getD i 0)) := by
        rw [List.getElem?_map, List.getD_eq_getElem?_getD, List.getElem?_eq_getElem hi]; rfl
      refine s_ifE (Ex.refl H') (et_eq (ev_op (ev_op (ev_var rfl) (ev_var rfl) (rv_I (by omega))) ev_c rv_I0) ev_c rfl) (fun hb1 H4 e4 => ?_) (fun hb1 H4 e4 => ?_)
      · have q : w.testBit i = true := by
          rw [← hb]
          have z := of_decide_eq_true hb1
          injection z with z
          exact decide_eq_true z
        refine Mu.s_set (Ex.refl H4) (ev_op (ev_var rfl) (EvD.ev (ed_ixT (ed_var rfl ((rTn K m).mono (eG.trans e4) hx)) (ev_var rfl) hget)) rv_I0) fun H5 e5 => ?_
        refine ⟨(e2.trans e4).trans e5, some (.int (i : Int)), ?_⟩
        show [some x, some (.int (w : Int)), some (.int (Builtin.bitOr ((imageTo m w i : Nat) : Int) ((m.getD i 0 : Nat) : Int))), some (.int (i : Int))] = _
        rw [bor_nat, imageTo_succ, if_pos q]
      · have q : ¬ w.testBit i = true := by
          rw [← hb]
          intro z
          have z2 := of_decide_eq_false hb1
          exact z2 (by rw [of_decide_eq_true z])
        refine nxt ⟨e2.trans e4, some (.int (i : Int)), ?_⟩
        show [some x, some (.int (w : Int)), some (.int ((imageTo m w i : Nat) : Int)), some (.int (i : Int))] = _
        rw [imageTo_succ, if_neg q]
    · rintro σ' H' ⟨e2, u, rfl⟩
      exact s_retE (Ex.refl H') (ev_var rfl) fun H4 e4 => k _ G H4 ((Gr.refl e).more (e2.trans e4)) rfl
theorem sc_product : FnScope ["first", "last", "mask"] ["first", "last"] (defScope s_product) := ⟨rfl, rfl, rfl, by decide +kernel, rfl, by decide +kernel, by decide +kernel⟩
theorem b_product (T : Tx K mg) : Binds K T.fd_product ["first", "last"] [] := T.F_product.bindsN fun _ _ _ _ _ _ us hl => match us, hl with | [_, _], _ => rfl
def R_product (K : PySem.W.Frag) : List V → Hp → Rp → Prop := fun vs G r => ∃ (x y : V) (f l : List Nat), vs = [x, y] ∧ (rTn K f).p x G ∧ (rTn K l).p y G ∧ f.length ≤ 1000 ∧ l.length ≤ 1000 ∧ r = rTn K (prodN f l)
theorem ok_product (T : Tx K mg) : FnOk P w K mg base CX0 2 T.f_product T.fd_product ["first", "last"] (spD (R_product K)) := by
  refine T.F_product.ok sc_product (fun vs H Q E h => ?_) (fun cdv A outer s H vs Q E hr h => ?_)
  · obtain ⟨G, r, _, ⟨x, y, f, l, rfl, _⟩, _⟩ := h
    rfl
  · obtain ⟨G, r, e, ⟨x, y, f, l, rfl, hx, hy, hf, hl, rfl⟩, k⟩ := h
    refine ⟨_, PSs.nox (pss_one (ps_ret (pe_callTy (call_tupK K) (by rfl) T.m_tuple (by decide +kernel) (pa_cons (pe_lc (own := [("mask", 2)]) (by rfl) sc_product.nd (pi_tupK K (pv 0)) (blkOk_by (N := ["first", "last", "mask"]) (sc := defScope s_product) (by decide +kernel)) (fun _ _ _ _ _ => (pg_name (i := 2) sc_product.nd rfl (Or.inl rfl))) (fun _ _ _ _ _ => pts_nil) (fun _ _ _ _ _ => (pe_call (ok_image T) (hr.mono (by decide)) (by rfl) T.g_image T.F_image.kp (b_image T) .nil pass0 (pa_cons (pv 1) (pa_cons (pv 2) pa_nil))))) pa_nil)))), ?_⟩
    refine s_retD e (ed_is (ed_tupL (EvN.d (en_lcT0 f nI (fun q => nI (imageN l q)) (ed_var rfl hx) (by omega) (fun _ => rfl) fun q z G1 hq e1 hz => ed_call (ead_cons (ed_var rfl ((rTn K l).mono e1 hy)) (ead_cons (ed_var rfl hz) ead_nil)) fun vs G2 e2 ra => ?_))) ?_) fun v G2 H2 g hv => k v G2 H2 g hv
    · obtain ⟨u, v, rfl, hu, hv⟩ := ra2 ra
      obtain rfl : v = V.int (q : Int) := hv
      exact SpD.of ⟨u, l, q, rfl, hu, hl, rfl⟩
    · unfold rTn prodN
      rw [List.map_map]; rfl
theorem sc_check_size : FnScope ["size"] ["size"] (defScope s_check_size) := ⟨rfl, rfl, rfl, by decide +kernel, rfl, by decide +kernel, by decide +kernel⟩
theorem b_check_size (T : Tx K mg) : Binds K T.fd_check_size ["size"] [] := T.F_check_size.bindsN fun _ _ _ _ _ _ us hl => match us, hl with | [_], _ => rfl
def R_check_size : List V → Hp → Rp → Prop := fun vs _ r => ∃ n : Nat, vs = [.int (n : Int)] ∧ 1 ≤ n ∧ n ≤ 6 ∧ r = rV .non
theorem ok_check_size (T : Tx K mg) : FnOk P w K mg base CX0 1 T.f_check_size T.fd_check_size ["size"] (spD R_check_size) := by
  refine T.F_check_size.ok sc_check_size (fun vs H Q E h => ?_) (fun cdv A outer s H vs Q E hr h => ?_)
  · obtain ⟨G, r, _, ⟨n, rfl, _⟩, _⟩ := h
    rfl
  · obtain ⟨G, r, e, ⟨n, rfl, h1, h6, rfl⟩, k⟩ := h
    refine ⟨_, PSs.nox (pss_one (ps_if (PW.pt (pw_or (pt_cmpR op_lt (pv 0) pe_int (nomark _)) (pw_or1 (pt_cmpR op_gt (pv 0) (pe_glob (v := .int 6) (by rfl) T.gi_GREATEST_SIZE.choose_spec ⟨_, rfl⟩) (nomark _))))) (pss_one ps_never) pss_nil)), ?_⟩
    refine s_ifE e (et_or (et_cmp (ev_var rfl) ev_c) fun _ => et_cmp (ev_var rfl) ev_c) (fun hb H1 e1 => ?_) (fun hb H1 e1 => ?_)
    · exfalso
      rcases Bool.or_eq_true_iff.mp hb with q | q
      · have := of_decide_eq_true q; omega
      · have := of_decide_eq_true q; omega
    · exact k _ G H1 ((Gr.refl e).more e1) rfl
end
end MuL

namespace MuL
open PySem PySem.Spec PyProof.Rows L2 He Evl Mu
section
variable {P : Program} {w : World} {K : PySem.W.Frag} {mg : Str → Option Value} {base : Heap}
theorem sc_Table___init__ : FnScope ["self", "rows", "at", "row", "word", "told", "out"] ["self", "rows"] (defScope s_Table___init__) := ⟨rfl, rfl, rfl, by decide +kernel, rfl, by decide +kernel, by decide +kernel⟩
theorem b_Table___init__ (T : Tx K mg) : Binds K T.fd_Table___init__ ["self", "rows"] [] := T.F_Table___init__.bindsN fun _ _ _ _ _ _ us hl => match us, hl with | [_, _], _ => rfl
theorem ok_Table___init__ (T : Tx K mg) : FnOk P w K mg base CX0 3 T.f_Table___init__ T.fd_Table___init__ ["self", "rows"] (spTab K T.C_Table) := by
  refine T.F_Table___init__.ok sc_Table___init__ (fun vs H Q E h => ?_) (fun cdv A outer s H vs Q E hr h => ?_)
  · obtain ⟨p, dx, x, G, rows, rfl, _⟩ := h
    rfl
  · obtain ⟨p, dx, x, G, rows, rfl, hp, e, gp, hx, h1, h6, hrow, k⟩ := h
    have hlen : (rows.map (rLn K)).length = rows.length := List.length_map _
    refine ⟨_, PSs.nox (pss_cons (ps_expr (pe_call (ok_check_size T) (hr.mono (by decide)) (by rfl) T.g_check_size T.F_check_size.kp (b_check_size T) .nil pass0 (pa_cons (pe_callB (call_lenK K) (by rfl) T.m_len PySem.boot_len (pa_cons (pv 1) pa_nil)) pa_nil)))
      (pss_cons (ps_for PassesOwn.never rfl (pi_enum (by rfl) T.m_enumerate (pa_cons (pv 1) pa_nil)) (pg_tup rfl (pgs_cons (pg_name (i := 2) sc_Table___init__.nd rfl (Or.inl rfl)) (pgs_cons (pg_name (i := 3) sc_Table___init__.nd rfl (Or.inl rfl)) pgs_nil))) (pss_one (ps_for PassesOwn.never rfl (pi_listK K (pv 3)) (pg_name (i := 4) sc_Table___init__.nd rfl (Or.inl rfl)) (pss_one (ps_if (PW.pt (pw_or (pt_cmpR op_lt (pv 4) pe_int (nomark _)) (pw_or1 (pt_cmpR op_ge (pv 4) (pe_callB (call_lenK K) (by rfl) T.m_len PySem.boot_len (pa_cons (pv 1) pa_nil)) (nomark _))))) (pss_one ps_never) pss_nil)))))
      (pss_cons (ps_fld (pv 0) (pe_callB (call_lenK K) (by rfl) T.m_len PySem.boot_len (pa_cons (pv 1) pa_nil)) rfl)
      (pss_cons (ps_fld (pv 0) (pe_call (ok_masks_of T) (hr.mono (by decide)) (by rfl) T.g_masks_of T.F_masks_of.kp (b_masks_of T) .nil pass0 (pa_cons (pv 1) pa_nil)) rfl)
      (pss_one (ps_fld (pv 0) (pe_callTy (call_tupK K) (by rfl) T.m_tuple (by decide +kernel) (pa_cons (pe_lc2 (own := [("told", 5), ("out", 6)]) (vs1 := [6]) (by rfl) sc_Table___init__.nd (pi_range1 (by rfl) T.m_range (pa_cons (pe_callB (call_lenK K) (by rfl) T.m_len PySem.boot_len (pa_cons (pv 1) pa_nil)) pa_nil)) (blkOk_by (N := ["self", "rows", "at", "row", "word", "told", "out"]) (sc := defScope s_Table___init__) (by decide +kernel)) (by decide) (fun _ _ _ _ _ => (pg_name (i := 5) sc_Table___init__.nd rfl (Or.inl rfl))) (fun _ _ _ _ _ => pts_nil) (fun _ _ _ _ _ => (pi_listK K (pe_call (ok_bits T) (hr.mono (by decide)) (by rfl) T.g_bits T.F_bits.kp (b_bits T) .nil pass0 (pa_cons (pe_ix (ix_tupK K) (pe_fldK K (pv 0)) (pv 5) (fun _ _ => rfl)) pa_nil)))) (fun _ _ _ _ _ => (pg_name (i := 6) sc_Table___init__.nd rfl (Or.inl rfl))) (fun _ _ _ _ _ => pts_nil) (fun _ _ _ _ _ => (pe_tup (pa_cons (pv 5) (pa_cons (pv 6) pa_nil))))) pa_nil)) rfl)))))), ?_⟩
    -- check_size(len(rows))
    refine sq (s_doE e (ev_callD (v := .non) (ead_cons (Ev.d (ev_lenL (ed_var rfl hx) hlen)) ead_nil) fun vs G2 e2 ra => ?_) fun H1 e1 => ?_)
    · obtain ⟨y, rfl, hy⟩ := ra1 ra
      obtain rfl : y = V.int (rows.length : Int) := hy
      exact SpD.of ⟨rows.length, rfl, h1, h6, rfl⟩
    -- for at, row in enumerate(rows): for word in row
    refine sq (Mu.s_forE rows (rLn K) (e.trans e1) (ead_cons (ed_var rfl hx) ead_nil) (fun G1 i σ' H' => Ex G1 H' ∧ Ex H H' ∧ ∃ a b c d f, σ' = [some (.ref p), some x, a, b, c, d, f]) (fun G1 H2 g => ⟨g.i, e1.trans g.h, _, _, _, _, _, rfl⟩) (fun _ _ _ _ q => q.1) (fun G1 i σ' H' H'' q z => ⟨q.1.trans z, q.2.1.trans z, q.2.2⟩) ?_ ?_)
    · rintro G1 i row y σ' H' eG hi hy ⟨e2, e3, a, b, c, d, f, rfl⟩
      have hw := (hrow row (List.mem_of_getElem? hi)).2
      refine Mu.s_forL row nI e2 (ed_var rfl hy) (fun G2 i' σ' H' => Ex G2 H' ∧ Ex G1 H' ∧ Ex H H' ∧ ∃ a b c d f, σ' = [some (.ref p), some x, a, b, c, d, f]) (fun G2 H2 g => ⟨g.i, g.g.trans g.i, e3.trans g.h, _, _, _, _, _, rfl⟩) (fun _ _ _ _ q => q.1) ?_ ?_
      · rintro G2 i' w z σ' H2 eG2 hi' hz ⟨e4, e5, e6, a', b', c', d', f', rfl⟩
        obtain rfl : z = V.int (w : Int) := hz
        have hlt := hw w (List.mem_of_getElem? hi')
        refine s_ifE (Ex.refl H2) (et_or (et_cmp (ev_var rfl) ev_c) fun _ => et_cmp (ev_var rfl) (ev_lenL (ed_var rfl ((rLL K rows).mono (e.trans e6) hx)) hlen)) (fun hb H3 e7 => ?_) (fun hb H3 e7 => ?_)
        · exfalso
          rcases Bool.or_eq_true_iff.mp hb with q | q
          · have := of_decide_eq_true q; omega
          · have := of_decide_eq_true q; omega
        · exact nxt ⟨e4.trans e7, e5.trans e7, e6.trans e7, _, _, _, _, _, rfl⟩
      · rintro G2 σ' H2 eG2 ⟨e4, e5, e6, a', b', c', d', f', rfl⟩
        exact ⟨e5, e6, _, _, _, _, _, rfl⟩
    · rintro G1 σ' H2 eG ⟨e2, e3, a, b, c, d, f, rfl⟩
      have hp2 := e3 _ _ hp
      -- self.size = len(rows)
      refine sq (s_fld (e.trans e3) hp2 gp (Ev.d (ev_lenL (ed_var rfl hx) hlen)) (ev_var rfl) T.c_Table T.na_Table_size (by decide) fun y G2 H3 eg2 k2 i2 n2 gp2 hy hp3 => ?_)
      obtain rfl : y = V.int (rows.length : Int) := hy
      -- self.masks = masks_of(rows)
      refine sq (s_fld (r := rTn K (rows.map maskN)) i2 hp3 gp2 (ed_call (ead_cons (ed_var rfl ((rLL K rows).mono eg2 hx)) ead_nil) fun vs G3 e3 ra => ?_) (ev_var rfl) T.c_Table T.na_Table_masks (by show 1 < 1000; decide) fun y G3 H4 eg3 k3 i3 n3 gp3 hy hp4 => ?_)
      · obtain ⟨y, rfl, hy⟩ := ra1 ra
        exact SpD.of ⟨y, rows, rfl, hy, by omega, fun q hq w hw => by have := (hrow q hq).2 w hw; omega, rfl⟩
      obtain ⟨tm, hm⟩ : ∃ tm, y = V.ref tm := by
        obtain ⟨a, _, h, _⟩ := hy
        exact ⟨a, h⟩
      subst hm
      have wf : ∀ a, ((rows.map maskN).getD a 0) < 2 ^ 6 := fun a => by
        rw [List.getD_eq_getElem?_getD, List.getElem?_map]
        cases q : rows[a]? with
        | none => exact Nat.two_pow_pos 6
        | some r => exact maskN_lt fun w hw => by have := (hrow r (List.mem_of_getElem? q)).2 w hw; omega
      have eF : putF "masks" (V.ref tm) (putF "size" (V.int (rows.length : Int)) []) = [(("size" : Str), V.int (rows.length : Int)), ("masks", V.ref tm)] := by
        have c1 : ¬ (("size" : Str) = "masks") := by decide +kernel
        show (if ("size" : Str) = "masks" then _ else (("size" : Str), V.int (rows.length : Int)) :: putF "masks" (V.ref tm) []) = _
        rw [if_neg c1]; rfl
      have lk : (putF "masks" (V.ref tm) (putF "size" (V.int (rows.length : Int)) [])).lookup ("masks" : Str) = some (V.ref tm) := by
        have c1 : (("masks" : Str) == ("size" : Str)) = false := by decide +kernel
        rw [eF]
        simp [List.lookup, c1]
      -- self.cells = tuple([..])
      refine s_fldS i3 hp4 gp3 (r := rT K ((pairsN (rows.map maskN)).map (rP K))) (ed_is (ed_tupL (EvN.d (en_lc2R rows.length (fun a => bitsN ((rows.map maskN).getD a 0)) nI (fun a b => rP K (a, b)) (ea_cons (ev_lenL (ed_var rfl ((rLL K rows).mono ((eg2.trans eg3).trans (Ex.new gp3)) hx)) hlen) ea_nil) (by omega) (fun a _ => Nat.le_trans (bits_len (wf a)) (by decide)) (fun _ => rfl) (fun _ _ => rfl) ?_ ?_))) ?_) (fun y G4 hG hy => rP_off hG hy) (ev_var rfl) T.c_Table T.na_Table_cells (by rw [eF]; show 2 < 1000; decide) fun y G4 H5 eg4 k4 i4 n4 gp4 hy' hp5 => ?_
      · intro a0 G5 ha e5
        have hg5 : G5 p = some (.ins T.C_Table dx (putF "masks" (V.ref tm) (putF "size" (V.int (rows.length : Int)) []))) := e5 _ _ upd_same
        have hm5 : (rTn K (rows.map maskN)).p (.ref tm) G5 := (rTn K _).mono ((Ex.new gp3).trans e5) hy
        have hself : EvD (tFld K (tVar 0) "masks") ((wipe [some (V.ref p), some x, a, b, c, d, f] [5, 6]).set 5 (some (.int (a0 : Int)))) G5 (rTn K (rows.map maskN)) := fun H6 e6 Q q => ⟨.ref p, rfl, p, T.C_Table, dx, _, .ref tm, rfl, e6 _ _ hg5, T.c_Table, T.na_Table_masks, lk, q _ G5 H6 (Gr.refl e6) hm5⟩
        refine EvN.d (en_call (ead_cons (ed_ixT hself (ev_var rfl) (r := nI ((rows.map maskN).getD a0 0)) ?_) ead_nil) fun vs G6 e6 ra => ?_)
        · rw [List.getElem?_map, List.getD_eq_getElem?_getD, List.getElem?_eq_getElem (by rw [List.length_map]; exact ha)]; rfl
        · obtain ⟨z, rfl, hz⟩ := ra1 ra
          obtain rfl : z = V.int (((rows.map maskN).getD a0 0 : Nat) : Int) := hz
          exact SpN.of ⟨_, rfl, Nat.lt_of_lt_of_le (wf a0) (by decide), rfl⟩
      · intro a b' z G5 ha hb e5 hz
        obtain rfl : z = V.int (b' : Int) := hz
        exact ed_tup (ead_cons (Ev.d (ev_var rfl)) (ead_cons (Ev.d (ev_var rfl)) ead_nil)) (by show 2 ≤ 100000; decide)
      · unfold pairsN
        rw [List.map_flatMap, List.length_map]
        congr 2
        funext a
        rw [List.map_map]; rfl
      obtain ⟨tc, hc, -⟩ : ∃ tc, y = V.ref tc ∧ True := by
        obtain ⟨a, _, h, _⟩ := hy'
        exact ⟨a, h, trivial⟩
      subst hc
      refine k H5 G4 tm tc ((eg2.trans eg3).trans eg4) (fun a o z n => k4 a o (k3 a o (k2 a o (e3 a o z) n) n) n) i4 (fun a o z y => ?_) ?_ ((rTn K _).mono eg4 hy) hy'
      · have y2 := n2 a o (e3 a o z) y
        by_cases q : a = p
        · subst q; exact gp4
        · have y3 := n3 a o (k2 a o (e3 a o z) q) y2
          exact n4 a o (k3 a o (k2 a o (e3 a o z) q) q) y3
      · rw [hp5, eF]
        have c1 : ¬ (("size" : Str) = "cells") := by decide +kernel
        have c2 : ¬ (("masks" : Str) = "cells") := by decide +kernel
        show some (HO.ins _ _ (if ("size" : Str) = "cells" then _ else (("size" : Str), V.int (rows.length : Int)) :: (if ("masks" : Str) = "cells" then _ else (("masks" : Str), V.ref tm) :: putF "cells" (V.ref tc) []))) = _
        rw [if_neg c1, if_neg c2]; rfl
end
end MuL

namespace MuL
open PySem PySem.Spec PyProof.Rows L2 He Evl Mu
section
variable {P : Program} {w : World} {K : PySem.W.Frag} {mg : Str → Option Value} {base : Heap}
theorem sc_table_of_masks : FnScope ["masks", "mask"] ["masks"] (defScope s_table_of_masks) := ⟨rfl, rfl, rfl, by decide +kernel, rfl, by decide +kernel, by decide +kernel⟩
theorem b_table_of_masks (T : Tx K mg) : Binds K T.fd_table_of_masks ["masks"] [] := T.F_table_of_masks.bindsN fun _ _ _ _ _ _ us hl => match us, hl with | [_], _ => rfl
def R_table_of_masks (K : PySem.W.Frag) (C : Addr) : List V → Hp → Rp → Prop := fun vs G r => ∃ (x : V) (m : List Nat), vs = [x] ∧ ((rTn K m).p x G ∨ (rLn K m).p x G) ∧ Wf m.length m ∧ 1 ≤ m.length ∧ m.length ≤ 6 ∧ r = rTab K C m
theorem ok_table_of_masks (T : Tx K mg) : FnOk P w K mg base CX0 5 T.f_table_of_masks T.fd_table_of_masks ["masks"] (spD (R_table_of_masks K T.C_Table)) := by
  refine T.F_table_of_masks.ok sc_table_of_masks (fun vs H Q E h => ?_) (fun cdv A outer s H vs Q E hr h => ?_)
  · obtain ⟨G, r, _, ⟨x, m, rfl, _⟩, _⟩ := h
    rfl
  · obtain ⟨G, r, e, ⟨x, m, rfl, hx, hw, h1, h6, rfl⟩, k⟩ := h
    have eqm : (m.map bitsN).map maskN = m := by
      rw [List.map_map]
      exact (List.map_congr_left fun a _ => maskN_bits a).trans (List.map_id _)
    have l6 : (2 : Nat) ^ m.length ≤ 2 ^ 6 := Nat.pow_le_pow_right (by decide) h6
    have cond : ∀ r ∈ m.map bitsN, r.length ≤ 100 ∧ ∀ w ∈ r, w < (m.map bitsN).length := fun r hr => by
      obtain ⟨a, ha, rfl⟩ := List.mem_map.mp hr
      refine ⟨Nat.le_trans (bits_len (hw.lt a ha)) (by omega), fun w hb => ?_⟩
      rw [List.length_map]
      exact bit_lt (hw.lt a ha) (mem_bits.mp hb)
    have elt : ∀ (q : Nat) (y : V) (G1 : Hp), q ∈ m → (nI q).p y G1 → EvD (tCall (spN R_bits) [] E0 (tCons (tVar 1) tNil)) ((wipe [some x, none] [1]).set 1 (some y)) G1 (rLn K (bitsN q)) := fun q y G1 hq hy =>
      EvN.d (en_call (ead_cons (ed_var rfl hy) ead_nil) fun vs G2 e2 ra => by
        obtain ⟨u, rfl, hu⟩ := ra1 ra
        obtain rfl : u = V.int (q : Int) := hu
        have := hw.lt q hq
        exact SpN.of ⟨q, rfl, by omega, rfl⟩)
    have eql : m.map (fun q => rLn K (bitsN q)) = (m.map bitsN).map (rLn K) := by rw [List.map_map]; rfl
    rcases hx with hx | hx
    · refine ⟨_, PSs.nox (pss_one (ps_ret (pe_make T.mk_Table (ok_Table___init__ T) (hr.mono (by decide)) (by rfl) T.g_Table (b_Table___init__ T) .nil pass0 (pa_cons (pe_lc (own := [("mask", 1)]) (by rfl) sc_table_of_masks.nd (pi_tupK K (pv 0)) (blkOk_by (N := ["masks", "mask"]) (sc := defScope s_table_of_masks) (by decide +kernel)) (fun _ _ _ _ _ => (pg_name (i := 1) sc_table_of_masks.nd rfl (Or.inl rfl))) (fun _ _ _ _ _ => pts_nil) (fun _ _ _ _ _ => (pe_call (ok_bits T) (hr.mono (by decide)) (by rfl) T.g_bits T.F_bits.kp (b_bits T) .nil pass0 (pa_cons (pv 1) pa_nil)))) pa_nil)))), ?_⟩
      refine s_retD e (ed_is (ed_tab (rows := m.map bitsN) (ed_is (EvN.d (en_lcT0 m nI (fun q => rLn K (bitsN q)) (ed_var rfl hx) (by omega) (fun _ => rfl) fun q y G1 hq e1 hy => elt q y G1 hq hy)) (by rw [eql]; rfl)) (by rw [List.length_map]; exact h1) (by rw [List.length_map]; exact h6) cond) (by rw [eqm])) fun v G2 H2 g hv => k v G2 H2 g hv
    · refine ⟨_, PSs.nox (pss_one (ps_ret (pe_make T.mk_Table (ok_Table___init__ T) (hr.mono (by decide)) (by rfl) T.g_Table (b_Table___init__ T) .nil pass0 (pa_cons (pe_lc (own := [("mask", 1)]) (by rfl) sc_table_of_masks.nd (pi_listK K (pv 0)) (blkOk_by (N := ["masks", "mask"]) (sc := defScope s_table_of_masks) (by decide +kernel)) (fun _ _ _ _ _ => (pg_name (i := 1) sc_table_of_masks.nd rfl (Or.inl rfl))) (fun _ _ _ _ _ => pts_nil) (fun _ _ _ _ _ => (pe_call (ok_bits T) (hr.mono (by decide)) (by rfl) T.g_bits T.F_bits.kp (b_bits T) .nil pass0 (pa_cons (pv 1) pa_nil)))) pa_nil)))), ?_⟩
      refine s_retD e (ed_is (ed_tab (rows := m.map bitsN) (ed_is (EvN.d (en_lcL0 m nI (fun q => rLn K (bitsN q)) (ed_var rfl hx) (by omega) (fun _ => rfl) fun q y G1 hq e1 hy => elt q y G1 hq hy)) (by rw [eql]; rfl)) (by rw [List.length_map]; exact h1) (by rw [List.length_map]; exact h6) cond) (by rw [eqm])) fun v G2 H2 g hv => k v G2 H2 g hv
theorem sc_Table_rows : FnScope ["self", "mask"] ["self"] (defScope s_Table_rows) := ⟨rfl, rfl, rfl, by decide +kernel, rfl, by decide +kernel, by decide +kernel⟩
theorem b_Table_rows (T : Tx K mg) : Binds K T.fd_Table_rows ["self"] [] := T.F_Table_rows.bindsN fun _ _ _ _ _ _ us hl => match us, hl with | [_], _ => rfl
def R_rows (K : PySem.W.Frag) (C : Addr) : List V → Hp → List Rp → Prop := fun vs G rs => ∃ (x : V) (m : List Nat), vs = [x] ∧ (rTab K C m).p x G ∧ m.length ≤ 1000 ∧ (∀ q ∈ m, q < 2 ^ 64) ∧ rs = (m.map bitsN).map (rLn K)
theorem ok_Table_rows (T : Tx K mg) : FnOk P w K mg base CX0 2 T.f_Table_rows T.fd_Table_rows ["self"] (spN (R_rows K T.C_Table)) := by
  refine T.F_Table_rows.ok sc_Table_rows (fun vs H Q E h => ?_) (fun cdv A outer s H vs Q E hr h => ?_)
  · obtain ⟨G, rs, _, ⟨x, m, rfl, _⟩, _⟩ := h
    rfl
  · obtain ⟨G, rs, e, ⟨x, m, rfl, hx, h6, hw, rfl⟩, k⟩ := h
    refine ⟨_, PSs.nox (pss_one (ps_ret (pe_lc (own := [("mask", 1)]) (by rfl) sc_Table_rows.nd (pi_tupK K (pe_fldK K (pv 0))) (blkOk_by (N := ["self", "mask"]) (sc := defScope s_Table_rows) (by decide +kernel)) (fun _ _ _ _ _ => (pg_name (i := 1) sc_Table_rows.nd rfl (Or.inl rfl))) (fun _ _ _ _ _ => pts_nil) (fun _ _ _ _ _ => (pe_call (ok_bits T) (hr.mono (by decide)) (by rfl) T.g_bits T.F_bits.kp (b_bits T) .nil pass0 (pa_cons (pv 1) pa_nil)))))), ?_⟩
    refine s_retN e (en_is (en_lcT0 m nI (fun q => rLn K (bitsN q)) (ed_masks (ed_var rfl hx) T.c_Table T.na_Table_masks) (by omega) (fun _ => rfl) fun q y G1 hq e1 hy => EvN.d (en_call (ead_cons (ed_var rfl hy) ead_nil) fun vs G2 e2 ra => ?_)) (by rw [List.map_map]; rfl)) fun p ws G2 H2 g hp gp h2 ra => k p ws G2 H2 g hp gp h2 ra
    obtain ⟨u, rfl, hu⟩ := ra1 ra
    obtain rfl : u = V.int (q : Int) := hu
    exact SpN.of ⟨q, rfl, hw q hq, rfl⟩
theorem sc_check_sizes : FnScope ["first", "second"] ["first", "second"] (defScope s_check_sizes) := ⟨rfl, rfl, rfl, by decide +kernel, rfl, by decide +kernel, by decide +kernel⟩
theorem b_check_sizes (T : Tx K mg) : Binds K T.fd_check_sizes ["first", "second"] [] := T.F_check_sizes.bindsN fun _ _ _ _ _ _ us hl => match us, hl with | [_, _], _ => rfl
def R_check_sizes : List V → Hp → Rp → Prop := fun vs _ r => ∃ n : Int, vs = [.int n, .int n] ∧ r = rV .non
theorem ok_check_sizes (T : Tx K mg) : FnOk P w K mg base CX0 1 T.f_check_sizes T.fd_check_sizes ["first", "second"] (spD R_check_sizes) := by
  refine T.F_check_sizes.ok sc_check_sizes (fun vs H Q E h => ?_) (fun cdv A outer s H vs Q E hr h => ?_)
  · obtain ⟨G, r, _, ⟨n, rfl, _⟩, _⟩ := h
    rfl
  · obtain ⟨G, r, e, ⟨n, rfl, rfl⟩, k⟩ := h
    refine ⟨_, PSs.nox (pss_one (ps_if (pt_cmpR op_ne (pv 0) (pv 1) (nomark _)) (pss_one ps_never) pss_nil)), ?_⟩
    refine s_ifE e (et_ne (ev_var rfl) (ev_var rfl) rfl) (fun hb H1 e1 => ?_) (fun hb H1 e1 => ?_)
    · simp at hb
    · exact k _ G H1 ((Gr.refl e).more e1) rfl
theorem sc_product_inside : FnScope ["one", "other", "word"] ["one", "other"] (defScope s_product_inside) := ⟨rfl, rfl, rfl, by decide +kernel, rfl, by decide +kernel, by decide +kernel⟩
theorem b_product_inside (T : Tx K mg) : Binds K T.fd_product_inside ["one", "other"] [] := T.F_product_inside.bindsN fun _ _ _ _ _ _ us hl => match us, hl with | [_, _], _ => rfl
def R_product_inside (K : PySem.W.Frag) : List V → Hp → Rp → Prop := fun vs G r => ∃ (x y : V) (f w : List Nat), vs = [x, y] ∧ (rTn K f).p x G ∧ (rTn K w).p y G ∧ f.length ≤ 60 ∧ w.length = f.length ∧ r = rB (insideN f w)
theorem ok_product_inside (T : Tx K mg) : FnOk P w K mg base CX0 1 T.f_product_inside T.fd_product_inside ["one", "other"] (spD (R_product_inside K)) := by
  refine T.F_product_inside.ok sc_product_inside (fun vs H Q E h => ?_) (fun cdv A outer s H vs Q E hr h => ?_)
  · obtain ⟨G, r, _, ⟨x, y, f, w, rfl, _⟩, _⟩ := h
    rfl
  · obtain ⟨G, r, e, ⟨x, y, f, w, rfl, hx, hy, hf, hwl, rfl⟩, k⟩ := h
    refine ⟨_, PSs.nox (pss_cons (ps_for PassesOwn.never rfl (pi_range1 (by rfl) T.m_range (pa_cons (pe_callB (call_lenK K) (by rfl) T.m_len PySem.boot_len (pa_cons (pv 0) pa_nil)) pa_nil)) (pg_name (i := 2) sc_product_inside.nd rfl (Or.inl rfl)) (pss_one (ps_if (pt_cmpR op_ne (pe_op op_and (pe_ix (ix_tupK K) (pv 0) (pv 2) (fun _ _ => rfl)) (pe_un un_inv (pe_ix (ix_tupK K) (pv 1) (pv 2) (fun _ _ => rfl)))) pe_int (nomark _)) (pss_one (ps_ret pe_bl)) pss_nil)))
      (pss_one (ps_ret pe_bl))), ?_⟩
    have lenx : (f.map nI).length = f.length := by rw [List.length_map]
    have getf : ∀ i, i < f.length → (f.map nI)[i]? = some (nI (f.getD i 0)) := fun i hi => by
      rw [List.getElem?_map, List.getD_eq_getElem?_getD, List.getElem?_eq_getElem hi]; rfl
    have getw : ∀ i, i < f.length → (w.map nI)[i]? = some (nI (w.getD i 0)) := fun i hi => by
      rw [List.getElem?_map, List.getD_eq_getElem?_getD, List.getElem?_eq_getElem (by rw [hwl]; exact hi)]; rfl
    refine sq (Mu.s_forR f.length e (ea_cons (ev_lenT (ed_var rfl hx) lenx) ea_nil) (by omega) (fun i σ' H' => Ex H H' ∧ (∀ j, j < i → subN (f.getD j 0) (w.getD j 0) = true) ∧ ∃ u, σ' = [some x, some y, u]) (fun H1 e1 => ⟨e1, fun j hj => by omega, none, rfl⟩) ?_ ?_)
    · rintro i σ' H' hi ⟨e1, hall, u, rfl⟩
      refine s_ifE (b := !subN (f.getD i 0) (w.getD i 0)) (e.trans e1) (et_is (et_ne (ev_op (EvD.ev (ed_ixT (ed_var rfl hx) (ev_var rfl) (getf i hi))) (ev_un (EvD.ev (ed_ixT (ed_var rfl hy) (ev_var rfl) (getw i hi))) ru_inv) rv_I0) ev_c rfl) (by
          show (!decide (V.int (Builtin.bitAnd ((f.getD i 0 : Nat) : Int) (Builtin.bitNot ((w.getD i 0 : Nat) : Int))) = V.int 0)) = !subN (f.getD i 0) (w.getD i 0)
          congr 1
          rw [band_not, Bool.eq_iff_iff]
          unfold subN
          rw [decide_eq_true_iff, decide_eq_true_iff]
          constructor
          · intro h; injection h with h; omega
          · intro h; rw [h]; rfl)) (fun hb H2 e2 => ?_) (fun hb H2 e2 => ?_)
      · refine s_retE (v := .bl false) (Ex.refl H2) ev_c fun H3 e3 => ?_
        refine k _ G H3 ((Gr.refl e).more ((e1.trans e2).trans e3)) ?_
        show V.bl false = V.bl (insideN f w)
        have : insideN f w = false := by
          cases q : insideN f w with
          | false => rfl
          | true =>
            unfold insideN at q
            have z := List.all_eq_true.mp q i (List.mem_range.mpr hi)
            rw [z] at hb; cases hb
        rw [this]
      · refine nxt ⟨e1.trans e2, fun j hj => ?_, _, rfl⟩
        by_cases q : j = i
        · subst q
          cases z : subN (f.getD j 0) (w.getD j 0) with
          | true => rfl
          | false => rw [z] at hb; cases hb
        · exact hall j (by omega)
    · rintro σ' H' ⟨e1, hall, u, rfl⟩
      dsimp only
      refine s_retE (v := .bl true) (Ex.refl H') ev_c fun H3 e3 => ?_
      refine k _ G H3 ((Gr.refl e).more (e1.trans e3)) ?_
      show V.bl true = V.bl (insideN f w)
      have : insideN f w = true := by
        unfold insideN
        exact List.all_eq_true.mpr fun j hj => hall j (List.mem_range.mp hj)
      rw [this]
theorem sc_Table___le__ : FnScope ["self", "other"] ["self", "other"] (defScope s_Table___le__) := ⟨rfl, rfl, rfl, by decide +kernel, rfl, by decide +kernel, by decide +kernel⟩
theorem b_Table___le__ (T : Tx K mg) : Binds K T.fd_Table___le__ ["self", "other"] [] := T.F_Table___le__.bindsN fun _ _ _ _ _ _ us hl => match us, hl with | [_, _], _ => rfl
def R_Table_le (K : PySem.W.Frag) (C : Addr) : List V → Hp → Rp → Prop := fun vs G r => ∃ (x y : V) (f w : List Nat) (n : Nat), vs = [x, y] ∧ (rTab K C f).p x G ∧ (rTab K C w).p y G ∧ Wf n f ∧ Wf n w ∧ 1 ≤ n ∧ n ≤ 6 ∧ r = rB (insideN f w)
theorem ok_Table___le__ (T : Tx K mg) : FnOk P w K mg base CX0 2 T.f_Table___le__ T.fd_Table___le__ ["self", "other"] (spD (R_Table_le K T.C_Table)) := by
  refine T.F_Table___le__.ok sc_Table___le__ (fun vs H Q E h => ?_) (fun cdv A outer s H vs Q E hr h => ?_)
  · obtain ⟨G, r, _, ⟨x, y, f, w, n, rfl, _⟩, _⟩ := h
    rfl
  · obtain ⟨G, r, e, ⟨x, y, f, w, n, rfl, hx, hy, wf, ww, h1, h6, rfl⟩, k⟩ := h
    refine ⟨_, PSs.nox (pss_cons (ps_if (pt_not (pt_val (pe_callB (call_isiK K) (by rfl) T.m_isinstance (by decide +kernel) (pa_cons (pv 1) (pa_cons (pe_glob (v := .ref T.C_Table) (by rfl) T.g_Table rfl) pa_nil))))) (pss_one ps_never) pss_nil)
      (pss_cons (ps_expr (pe_call (ok_check_sizes T) (hr.mono (by decide)) (by rfl) T.g_check_sizes T.F_check_sizes.kp (b_check_sizes T) .nil pass0 (pa_cons (pe_fldK K (pv 0)) (pa_cons (pe_fldK K (pv 1)) pa_nil))))
      (pss_one (ps_ret (pe_call (ok_product_inside T) (hr.mono (by decide)) (by rfl) T.g_product_inside T.F_product_inside.kp (b_product_inside T) .nil pass0 (pa_cons (pe_fldK K (pv 0)) (pa_cons (pe_fldK K (pv 1)) pa_nil))))))), ?_⟩
    refine sq (s_ifE e (et_not (et_B (is_tab T.ic_Table (ed_var rfl hy)))) (fun hb H1 e1 => ?_) (fun hb H1 e1 => ?_))
    · cases hb
    refine nxt (sq (s_doE (e.trans e1) (ev_callD (v := .non) (ead_cons (Ev.d (ev_size (ed_var rfl hx) T.c_Table T.na_Table_size)) (ead_cons (Ev.d (ev_size (ed_var rfl hy) T.c_Table T.na_Table_size)) ead_nil)) fun vs G2 e2 ra => ?_) fun H2 e2 => ?_))
    · obtain ⟨u, v, rfl, hu, hv⟩ := ra2 ra
      obtain rfl : u = V.int (f.length : Int) := hu
      obtain rfl : v = V.int (w.length : Int) := hv
      rw [wf.len, ww.len]
      exact SpD.of ⟨_, rfl, rfl⟩
    refine s_retD ((e.trans e1).trans e2) (ed_call (ead_cons (ed_masks (ed_var rfl hx) T.c_Table T.na_Table_masks) (ead_cons (ed_masks (ed_var rfl hy) T.c_Table T.na_Table_masks) ead_nil)) fun vs G2 e3 ra => by
      obtain ⟨u, v, rfl, hu, hv⟩ := ra2 ra
      exact SpD.of ⟨u, v, f, w, rfl, hu, hv, by rw [wf.len]; omega, by rw [wf.len, ww.len], rfl⟩) fun v G3 H3 g hv => k v G3 H3 ⟨g.g, (e1.trans e2).trans g.h, g.i, fun a o z y => g.n a o ((e1.trans e2) a o z) y⟩ hv
theorem sc_Table___mul__ : FnScope ["self", "other"] ["self", "other"] (defScope s_Table___mul__) := ⟨rfl, rfl, rfl, by decide +kernel, rfl, by decide +kernel, by decide +kernel⟩
theorem b_Table___mul__ (T : Tx K mg) : Binds K T.fd_Table___mul__ ["self", "other"] [] := T.F_Table___mul__.bindsN fun _ _ _ _ _ _ us hl => match us, hl with | [_, _], _ => rfl
def R_Table_mul (K : PySem.W.Frag) (C : Addr) : List V → Hp → Rp → Prop := fun vs G r => ∃ (x y : V) (f w : List Nat) (n : Nat), vs = [x, y] ∧ (rTab K C f).p x G ∧ (rTab K C w).p y G ∧ Wf n f ∧ Wf n w ∧ 1 ≤ n ∧ n ≤ 6 ∧ r = rTab K C (prodN f w)
theorem ok_Table___mul__ (T : Tx K mg) : FnOk P w K mg base CX0 6 T.f_Table___mul__ T.fd_Table___mul__ ["self", "other"] (spD (R_Table_mul K T.C_Table)) := by
  refine T.F_Table___mul__.ok sc_Table___mul__ (fun vs H Q E h => ?_) (fun cdv A outer s H vs Q E hr h => ?_)
  · obtain ⟨G, r, _, ⟨x, y, f, w, n, rfl, _⟩, _⟩ := h
    rfl
  · obtain ⟨G, r, e, ⟨x, y, f, w, n, rfl, hx, hy, wf, ww, h1, h6, rfl⟩, k⟩ := h
    refine ⟨_, PSs.nox (pss_cons (ps_if (pt_not (pt_val (pe_callB (call_isiK K) (by rfl) T.m_isinstance (by decide +kernel) (pa_cons (pv 1) (pa_cons (pe_glob (v := .ref T.C_Table) (by rfl) T.g_Table rfl) pa_nil))))) (pss_one ps_never) pss_nil)
      (pss_cons (ps_expr (pe_call (ok_check_sizes T) (hr.mono (by decide)) (by rfl) T.g_check_sizes T.F_check_sizes.kp (b_check_sizes T) .nil pass0 (pa_cons (pe_fldK K (pv 0)) (pa_cons (pe_fldK K (pv 1)) pa_nil))))
      (pss_one (ps_ret (pe_call (ok_table_of_masks T) (hr.mono (by decide)) (by rfl) T.g_table_of_masks T.F_table_of_masks.kp (b_table_of_masks T) .nil pass0 (pa_cons (pe_call (ok_product T) (hr.mono (by decide)) (by rfl) T.g_product T.F_product.kp (b_product T) .nil pass0 (pa_cons (pe_fldK K (pv 0)) (pa_cons (pe_fldK K (pv 1)) pa_nil))) pa_nil)))))), ?_⟩
    refine sq (s_ifE e (et_not (et_B (is_tab T.ic_Table (ed_var rfl hy)))) (fun hb H1 e1 => ?_) (fun hb H1 e1 => ?_))
    · cases hb
    refine nxt (sq (s_doE (e.trans e1) (ev_callD (v := .non) (ead_cons (Ev.d (ev_size (ed_var rfl hx) T.c_Table T.na_Table_size)) (ead_cons (Ev.d (ev_size (ed_var rfl hy) T.c_Table T.na_Table_size)) ead_nil)) fun vs G2 e2 ra => ?_) fun H2 e2 => ?_))
    · obtain ⟨u, v, rfl, hu, hv⟩ := ra2 ra
      obtain rfl : u = V.int (f.length : Int) := hu
      obtain rfl : v = V.int (w.length : Int) := hv
      rw [wf.len, ww.len]
      exact SpD.of ⟨_, rfl, rfl⟩
    refine s_retD ((e.trans e1).trans e2) (ed_call (ead_cons (ed_call (r := rTn K (prodN f w)) (ead_cons (ed_masks (ed_var rfl hx) T.c_Table T.na_Table_masks) (ead_cons (ed_masks (ed_var rfl hy) T.c_Table T.na_Table_masks) ead_nil)) fun vs G2 e3 ra => by
      obtain ⟨u, v, rfl, hu, hv⟩ := ra2 ra
      exact SpD.of ⟨u, v, f, w, rfl, hu, hv, by rw [wf.len]; omega, by rw [ww.len]; omega, rfl⟩) ead_nil) fun vs G2 e3 ra => by
      obtain ⟨u, rfl, hu⟩ := ra1 ra
      have wr : Wf n (prodN f w) := prodN_wf wf ww
      exact SpD.of ⟨u, _, rfl, .inl hu, wr.len.symm ▸ wr, by rw [wr.len]; exact h1, by rw [wr.len]; exact h6, rfl⟩) fun v G3 H3 g hv => k v G3 H3 ⟨g.g, (e1.trans e2).trans g.h, g.i, fun a o z y => g.n a o ((e1.trans e2) a o z) y⟩ hv
end
end MuL

namespace MuL
open PySem PySem.Spec PyProof.Rows L2 He Evl Mu
section
variable {P : Program} {w : World} {K : PySem.W.Frag} {mg : Str → Option Value} {base : Heap}
theorem sc_greatest_behind : FnScope ["first", "whole", "size", "found", "mid", "mask", "told"] ["first", "whole"] (defScope s_greatest_behind) := ⟨rfl, rfl, rfl, by decide +kernel, rfl, by decide +kernel, by decide +kernel⟩
theorem b_greatest_behind (T : Tx K mg) : Binds K T.fd_greatest_behind ["first", "whole"] [] := T.F_greatest_behind.bindsN fun _ _ _ _ _ _ us hl => match us, hl with | [_, _], _ => rfl
def R_greatest_behind (K : PySem.W.Frag) : List V → Hp → Rp → Prop := fun vs G r => ∃ (x y : V) (f w : List Nat), vs = [x, y] ∧ (rTn K f).p x G ∧ (rTn K w).p y G ∧ f.length ≤ 60 ∧ w.length = f.length ∧ r = rTn K (behindN f w)
theorem ok_greatest_behind (T : Tx K mg) : FnOk P w K mg base CX0 1 T.f_greatest_behind T.fd_greatest_behind ["first", "whole"] (spD (R_greatest_behind K)) := by
  refine T.F_greatest_behind.ok sc_greatest_behind (fun vs H Q E h => ?_) (fun cdv A outer s H vs Q E hr h => ?_)
  · obtain ⟨G, r, _, ⟨x, y, f, w, rfl, _⟩, _⟩ := h
    rfl
  · obtain ⟨G, r, e, ⟨x, y, f, w, rfl, hx, hy, hf, hwl, rfl⟩, k⟩ := h
    refine ⟨_, PSs.nox (pss_cons (ps_set (i := 2) sc_greatest_behind.nd rfl (Or.inl rfl) (pe_callB (call_lenK K) (by rfl) T.m_len PySem.boot_len (pa_cons (pv 0) pa_nil)))
      (pss_cons (ps_set (i := 3) sc_greatest_behind.nd rfl (Or.inl rfl) (pe_lst pa_nil))
      (pss_cons (ps_for PassesOwn.never rfl (pi_range1 (by rfl) T.m_range (pa_cons (pv 2) pa_nil)) (pg_name (i := 4) sc_greatest_behind.nd rfl (Or.inl rfl)) (pss_cons (ps_set (i := 5) sc_greatest_behind.nd rfl (Or.inl rfl) (pe_op op_sub (pe_op op_shl pe_int (pv 2)) pe_int))
      (pss_cons (ps_for PassesOwn.never rfl (pi_range1 (by rfl) T.m_range (pa_cons (pv 2) pa_nil)) (pg_name (i := 6) sc_greatest_behind.nd rfl (Or.inl rfl)) (pss_one (ps_if (pt_cmpR op_eq (pe_op op_and (pe_op op_shr (pe_ix (ix_tupK K) (pv 0) (pv 6) (fun _ _ => rfl)) (pv 4)) pe_int) pe_int (nomark _)) (pss_one (ps_set (i := 5) sc_greatest_behind.nd rfl (Or.inl rfl) (pe_op op_and (pv 5) (pe_ix (ix_tupK K) (pv 1) (pv 6) (fun _ _ => rfl))))) pss_nil)))
      (pss_one (ps_expr (pe_bm PySem.F.plainAttrs_list PySem.F.slot_list_append PySem.F.type_list_append mt_append (pv 3) (pa_cons (pv 5) pa_nil)))))))
      (pss_one (ps_ret (pe_callTy (call_tupK K) (by rfl) T.m_tuple (by decide +kernel) (pa_cons (pv 3) pa_nil))))))), ?_⟩
    have getf : ∀ i, i < f.length → (f.map nI)[i]? = some (nI (f.getD i 0)) := fun i hi => by
      rw [List.getElem?_map, List.getD_eq_getElem?_getD, List.getElem?_eq_getElem hi]; rfl
    have getw : ∀ i, i < f.length → (w.map nI)[i]? = some (nI (w.getD i 0)) := fun i hi => by
      rw [List.getElem?_map, List.getD_eq_getElem?_getD, List.getElem?_eq_getElem (by rw [hwl]; exact hi)]; rfl
    refine sq (Mu.s_set e (ev_lenT (ed_var rfl hx) (List.length_map _)) fun H1 e1 => ?_)
    refine sq (s_setN (e.trans e1) (en_lst ead_nil (by decide)) fun p vs G2 H2 g2 hp gp h2 ra => ?_)
    cases ra
    have hp0 : H p = none := fresh_back e1 hp
    refine sq (Mu.s_forR f.length (Ex.refl H2) (ea_cons (ev_var rfl) ea_nil) (by omega) (fun i σ' H' => Ex H H' ∧ H' p = some (.lst (((List.range i).map (behindAt f w)).map fun (n : Nat) => V.int (n : Int))) ∧ ∃ a b c, σ' = [some x, some y, some (.int (f.length : Int)), some (.ref p), a, b, c]) (fun H3 e3 => ⟨e1.trans (g2.h.trans e3), e3 _ _ h2, none, none, none, rfl⟩) ?_ ?_)
    · rintro i σ' H' hi ⟨e3, hl, a, b, c, rfl⟩
      refine sq (Mu.s_set (Ex.refl H') (ev_op (ev_op ev_c (ev_var rfl) (rv_I ⟨by omega, by omega, by decide⟩)) ev_c rv_I0) fun H4 e4 => ?_)
      have e0 : (1 : Int) * 2 ^ ((f.length : Int)).toNat - 1 = ((behindTo f w i 0 : Nat) : Int) := by
        rw [shl_nat]
        have := Nat.two_pow_pos f.length
        show _ = ((2 ^ f.length - 1 : Nat) : Int)
        omega
      rw [e0]
      refine sq (Mu.s_forR f.length (Ex.refl H4) (ea_cons (ev_var rfl) ea_nil) (by omega) (fun j σ' H' => Ex H H' ∧ H' p = some (.lst (((List.range i).map (behindAt f w)).map fun (n : Nat) => V.int (n : Int))) ∧ ∃ c, σ' = [some x, some y, some (.int (f.length : Int)), some (.ref p), some (.int (i : Int)), some (.int ((behindTo f w i j : Nat) : Int)), c]) (fun H5 e5 => ⟨(e3.trans e4).trans e5, e5 _ _ (e4 _ _ hl), c, rfl⟩) ?_ ?_)
      · rintro j σ' H5 hj ⟨e5, hl5, c', rfl⟩
        have hb := bit_test (f.getD j 0) i
        refine s_ifE (e.trans e5) (et_eq (ev_op (ev_op (EvD.ev (ed_ixT (ed_var rfl hx) (ev_var rfl) (getf j hj))) (ev_var rfl) (rv_I (by omega))) ev_c rv_I0) ev_c rfl) (fun hb1 H6 e6 => ?_) (fun hb1 H6 e6 => ?_)
        · have q : bitOf f j i = true := by
            show (f.getD j 0).testBit i = true
            rw [← hb]
            have z := of_decide_eq_true hb1
            injection z with z
            exact decide_eq_true z
          refine Mu.s_set ((e.trans e5).trans e6) (ev_op (ev_var rfl) (EvD.ev (ed_ixT (ed_var rfl hy) (ev_var rfl) (getw j hj))) rv_I0) fun H7 e7 => ?_
          refine ⟨(e5.trans e6).trans e7, e7 _ _ (e6 _ _ hl5), some (.int (j : Int)), ?_⟩
          show [some x, some y, some (.int (f.length : Int)), some (.ref p), some (.int (i : Int)), some (.int (Builtin.bitAnd ((behindTo f w i j : Nat) : Int) ((w.getD j 0 : Nat) : Int))), some (.int (j : Int))] = _
          rw [band_nat, behindTo_succ, if_pos q]
        · have q : ¬ bitOf f j i = true := by
            show ¬ (f.getD j 0).testBit i = true
            rw [← hb]
            intro z
            have z2 := of_decide_eq_false hb1
            exact z2 (by rw [of_decide_eq_true z])
          refine nxt ⟨e5.trans e6, e6 _ _ hl5, some (.int (j : Int)), ?_⟩
          show [some x, some y, some (.int (f.length : Int)), some (.ref p), some (.int (i : Int)), some (.int ((behindTo f w i j : Nat) : Int)), some (.int (j : Int))] = _
          rw [behindTo_succ, if_neg q]
      · rintro σ' H5 ⟨e5, hl5, c', rfl⟩
        refine s_app hl5 (ev_var rfl) (ev_var rfl) (by rw [List.length_map, List.length_map, List.length_range]; omega) fun H6 e6 => ?_
        refine ⟨Ex.mut (e5.trans e6) hp0, ?_, _, _, _, rfl⟩
        rw [upd_same, List.range_succ, List.map_append, List.map_append]
        rfl
    · rintro σ' H3 ⟨e3, hl, a, b, c, rfl⟩
      refine s_retD (G := upd G p (.lst (((List.range f.length).map (behindAt f w)).map fun (n : Nat) => V.int (n : Int)))) (ex_add (e.trans e3) hl) (ed_tupL (rs := ((List.range f.length).map (behindAt f w)).map nI) (ed_var rfl ⟨p, _, rfl, upd_same, ra_nats⟩)) fun v G4 H4 g4 hv => ?_
      have gp0 : G p = none := fresh_back e hp0
      exact k v G4 H4 ⟨(Ex.new gp0).trans g4.g, e3.trans g4.h, g4.i, fun a o z y => g4.n a o (e3 a o z) (by rw [upd_ne (ne_of_none z hp0)]; exact y)⟩ hv
theorem sc_greatest_ahead : FnScope ["whole", "last", "found", "told", "mask", "mid"] ["whole", "last"] (defScope s_greatest_ahead) := ⟨rfl, rfl, rfl, by decide +kernel, rfl, by decide +kernel, by decide +kernel⟩
theorem b_greatest_ahead (T : Tx K mg) : Binds K T.fd_greatest_ahead ["whole", "last"] [] := T.F_greatest_ahead.bindsN fun _ _ _ _ _ _ us hl => match us, hl with | [_, _], _ => rfl
def R_greatest_ahead (K : PySem.W.Frag) : List V → Hp → Rp → Prop := fun vs G r => ∃ (x y : V) (f w : List Nat), vs = [x, y] ∧ (rTn K f).p x G ∧ (rTn K w).p y G ∧ f.length ≤ 60 ∧ w.length = f.length ∧ r = rTn K (aheadN f w)
theorem ok_greatest_ahead (T : Tx K mg) : FnOk P w K mg base CX0 1 T.f_greatest_ahead T.fd_greatest_ahead ["whole", "last"] (spD (R_greatest_ahead K)) := by
  refine T.F_greatest_ahead.ok sc_greatest_ahead (fun vs H Q E h => ?_) (fun cdv A outer s H vs Q E hr h => ?_)
  · obtain ⟨G, r, _, ⟨x, y, f, w, rfl, _⟩, _⟩ := h
    rfl
  · obtain ⟨G, r, e, ⟨x, y, f, w, rfl, hx, hy, hf, hwl, rfl⟩, k⟩ := h
    refine ⟨_, PSs.nox (pss_cons (ps_set (i := 2) sc_greatest_ahead.nd rfl (Or.inl rfl) (pe_lst pa_nil))
      (pss_cons (ps_for PassesOwn.never rfl (pi_range1 (by rfl) T.m_range (pa_cons (pe_callB (call_lenK K) (by rfl) T.m_len PySem.boot_len (pa_cons (pv 0) pa_nil)) pa_nil)) (pg_name (i := 3) sc_greatest_ahead.nd rfl (Or.inl rfl)) (pss_cons (ps_set (i := 4) sc_greatest_ahead.nd rfl (Or.inl rfl) pe_int)
      (pss_cons (ps_for PassesOwn.never rfl (pi_range1 (by rfl) T.m_range (pa_cons (pe_callB (call_lenK K) (by rfl) T.m_len PySem.boot_len (pa_cons (pv 0) pa_nil)) pa_nil)) (pg_name (i := 5) sc_greatest_ahead.nd rfl (Or.inl rfl)) (pss_one (ps_if (pt_cmpR op_eq (pe_op op_and (pe_ix (ix_tupK K) (pv 1) (pv 5) (fun _ _ => rfl)) (pe_un un_inv (pe_ix (ix_tupK K) (pv 0) (pv 3) (fun _ _ => rfl)))) pe_int (nomark _)) (pss_one (ps_set (i := 4) sc_greatest_ahead.nd rfl (Or.inl rfl) (pe_op op_or (pv 4) (pe_op op_shl pe_int (pv 5))))) pss_nil)))
      (pss_one (ps_expr (pe_bm PySem.F.plainAttrs_list PySem.F.slot_list_append PySem.F.type_list_append mt_append (pv 2) (pa_cons (pv 4) pa_nil)))))))
      (pss_one (ps_ret (pe_callTy (call_tupK K) (by rfl) T.m_tuple (by decide +kernel) (pa_cons (pv 2) pa_nil)))))), ?_⟩
    obtain ⟨n, hn⟩ : ∃ n, n = f.length := ⟨_, rfl⟩
    have lenx : (f.map nI).length = n := by rw [List.length_map, hn]
    obtain ⟨c, hc⟩ : ∃ c : Nat → Nat → Bool, c = fun told mid => subN (w.getD mid 0) (f.getD told 0) := ⟨_, rfl⟩
    have hres : aheadN f w = (List.range n).map (fun a => accTo (c a) n) := by rw [hn, hc]; rfl
    have getf : ∀ i, i < n → (f.map nI)[i]? = some (nI (f.getD i 0)) := fun i hi => by
      rw [List.getElem?_map, List.getD_eq_getElem?_getD, List.getElem?_eq_getElem (by rw [← hn]; exact hi)]; rfl
    have getw : ∀ i, i < n → (w.map nI)[i]? = some (nI (w.getD i 0)) := fun i hi => by
      rw [List.getElem?_map, List.getD_eq_getElem?_getD, List.getElem?_eq_getElem (by rw [hwl, ← hn]; exact hi)]; rfl
    refine sq (s_setN e (en_lst ead_nil (by decide)) fun p vs G2 H2 g2 hp0 gp h2 ra => ?_)
    cases ra
    refine sq (Mu.s_forR n g2.i (ea_cons (ev_lenT (ed_var rfl ((rTn K _).mono g2.g hx)) lenx) ea_nil) (by omega) (fun i σ' H' => Ex H H' ∧ H' p = some (.lst (((List.range i).map (fun a => accTo (c a) n)).map fun (n : Nat) => V.int (n : Int))) ∧ ∃ a b d, σ' = [some x, some y, some (.ref p), a, b, d]) (fun H3 e3 => ⟨g2.h.trans e3, e3 _ _ h2, none, none, none, rfl⟩) ?_ ?_)
    · rintro i σ' H' hi ⟨e3, hl, a, b, d, rfl⟩
      refine sq (Mu.s_set (Ex.refl H') ev_c fun H4 e4 => ?_)
      refine sq (Mu.s_forR n ((e.trans e3).trans e4) (ea_cons (ev_lenT (ed_var rfl hx) lenx) ea_nil) (by omega) (fun j σ' H' => Ex H H' ∧ H' p = some (.lst (((List.range i).map (fun a => accTo (c a) n)).map fun (n : Nat) => V.int (n : Int))) ∧ ∃ d, σ' = [some x, some y, some (.ref p), some (.int (i : Int)), some (.int ((accTo (c i) j : Nat) : Int)), d]) (fun H5 e5 => ⟨(e3.trans e4).trans e5, e5 _ _ (e4 _ _ hl), d, rfl⟩) ?_ ?_)
      · rintro j σ' H5 hj ⟨e5, hl5, d', rfl⟩
        refine s_ifE (b := c i j) (e.trans e5) (et_is (et_eq (ev_op (EvD.ev (ed_ixT (ed_var rfl hy) (ev_var rfl) (getw j hj))) (ev_un (EvD.ev (ed_ixT (ed_var rfl hx) (ev_var rfl) (getf i hi))) ru_inv) rv_I0) ev_c rfl) (by
          rw [hc]
          show decide (V.int (Builtin.bitAnd ((w.getD j 0 : Nat) : Int) (Builtin.bitNot ((f.getD i 0 : Nat) : Int))) = V.int 0) = subN (w.getD j 0) (f.getD i 0)
          rw [band_not, Bool.eq_iff_iff]
          unfold subN
          rw [decide_eq_true_iff, decide_eq_true_iff]
          constructor
          · intro h; injection h with h; omega
          · intro h; rw [h]; rfl)) (fun hb1 H6 e6 => ?_) (fun hb1 H6 e6 => ?_)
        · refine Mu.s_set (Ex.refl H6) (ev_op (ev_var rfl) (ev_op ev_c (ev_var rfl) (rv_I ⟨by omega, by omega, by decide⟩)) rv_I0) fun H7 e7 => ?_
          refine ⟨(e5.trans e6).trans e7, e7 _ _ (e6 _ _ hl5), some (.int (j : Int)), ?_⟩
          show [some x, some y, some (.ref p), some (.int (i : Int)), some (.int (Builtin.bitOr ((accTo (c i) j : Nat) : Int) (1 * 2 ^ ((j : Int)).toNat))), some (.int (j : Int))] = _
          rw [shl_nat, bor_nat, accTo_succ, if_pos hb1]
        · refine nxt ⟨e5.trans e6, e6 _ _ hl5, some (.int (j : Int)), ?_⟩
          show [some x, some y, some (.ref p), some (.int (i : Int)), some (.int ((accTo (c i) j : Nat) : Int)), some (.int (j : Int))] = _
          rw [accTo_succ, if_neg (by rw [hb1]; decide)]
      · rintro σ' H5 ⟨e5, hl5, d', rfl⟩
        refine s_app hl5 (ev_var rfl) (ev_var rfl) (by rw [List.length_map, List.length_map, List.length_range]; omega) fun H6 e6 => ?_
        refine ⟨Ex.mut (e5.trans e6) hp0, ?_, _, _, _, rfl⟩
        rw [upd_same, List.range_succ, List.map_append, List.map_append]
        rfl
    · rintro σ' H3 ⟨e3, hl, a, b, d, rfl⟩
      dsimp only
      refine s_retD (G := upd G p (.lst (((List.range n).map (fun a => accTo (c a) n)).map fun (n : Nat) => V.int (n : Int)))) (ex_add (e.trans e3) hl) (ed_tupL (rs := ((List.range n).map (fun a => accTo (c a) n)).map nI) (ed_var rfl ⟨p, _, rfl, upd_same, ra_nats⟩)) fun v G4 H4 g4 hv => ?_
      have gp0 : G p = none := fresh_back e hp0
      refine k v G4 H4 ⟨(Ex.new gp0).trans g4.g, e3.trans g4.h, g4.i, fun a o z y => g4.n a o (e3 a o z) (by rw [upd_ne (ne_of_none z hp0)]; exact y)⟩ ?_
      rw [hres]
      exact hv
theorem sc_Table___rshift__ : FnScope ["self", "other"] ["self", "other"] (defScope s_Table___rshift__) := ⟨rfl, rfl, rfl, by decide +kernel, rfl, by decide +kernel, by decide +kernel⟩
theorem b_Table___rshift__ (T : Tx K mg) : Binds K T.fd_Table___rshift__ ["self", "other"] [] := T.F_Table___rshift__.bindsN fun _ _ _ _ _ _ us hl => match us, hl with | [_, _], _ => rfl
def R_Table_rshift (K : PySem.W.Frag) (C : Addr) : List V → Hp → Rp → Prop := fun vs G r => ∃ (x y : V) (f w : List Nat) (n : Nat), vs = [x, y] ∧ (rTab K C f).p x G ∧ (rTab K C w).p y G ∧ Wf n f ∧ Wf n w ∧ 1 ≤ n ∧ n ≤ 6 ∧ r = rTab K C (behindN f w)
theorem ok_Table___rshift__ (T : Tx K mg) : FnOk P w K mg base CX0 6 T.f_Table___rshift__ T.fd_Table___rshift__ ["self", "other"] (spD (R_Table_rshift K T.C_Table)) := by
  refine T.F_Table___rshift__.ok sc_Table___rshift__ (fun vs H Q E h => ?_) (fun cdv A outer s H vs Q E hr h => ?_)
  · obtain ⟨G, r, _, ⟨x, y, f, w, n, rfl, _⟩, _⟩ := h
    rfl
  · obtain ⟨G, r, e, ⟨x, y, f, w, n, rfl, hx, hy, wf, ww, h1, h6, rfl⟩, k⟩ := h
    refine ⟨_, PSs.nox (pss_cons (ps_if (pt_not (pt_val (pe_callB (call_isiK K) (by rfl) T.m_isinstance (by decide +kernel) (pa_cons (pv 1) (pa_cons (pe_glob (v := .ref T.C_Table) (by rfl) T.g_Table rfl) pa_nil))))) (pss_one ps_never) pss_nil)
      (pss_cons (ps_expr (pe_call (ok_check_sizes T) (hr.mono (by decide)) (by rfl) T.g_check_sizes T.F_check_sizes.kp (b_check_sizes T) .nil pass0 (pa_cons (pe_fldK K (pv 0)) (pa_cons (pe_fldK K (pv 1)) pa_nil))))
      (pss_one (ps_ret (pe_call (ok_table_of_masks T) (hr.mono (by decide)) (by rfl) T.g_table_of_masks T.F_table_of_masks.kp (b_table_of_masks T) .nil pass0 (pa_cons (pe_call (ok_greatest_behind T) (hr.mono (by decide)) (by rfl) T.g_greatest_behind T.F_greatest_behind.kp (b_greatest_behind T) .nil pass0 (pa_cons (pe_fldK K (pv 0)) (pa_cons (pe_fldK K (pv 1)) pa_nil))) pa_nil)))))), ?_⟩
    refine sq (s_ifE e (et_not (et_B (is_tab T.ic_Table (ed_var rfl hy)))) (fun hb H1 e1 => ?_) (fun hb H1 e1 => ?_))
    · cases hb
    refine nxt (sq (s_doE (e.trans e1) (ev_callD (v := .non) (ead_cons (Ev.d (ev_size (ed_var rfl hx) T.c_Table T.na_Table_size)) (ead_cons (Ev.d (ev_size (ed_var rfl hy) T.c_Table T.na_Table_size)) ead_nil)) fun vs G2 e2 ra => ?_) fun H2 e2 => ?_))
    · obtain ⟨u, v, rfl, hu, hv⟩ := ra2 ra
      obtain rfl : u = V.int (f.length : Int) := hu
      obtain rfl : v = V.int (w.length : Int) := hv
      rw [wf.len, ww.len]
      exact SpD.of ⟨_, rfl, rfl⟩
    refine s_retD ((e.trans e1).trans e2) (ed_call (ead_cons (ed_call (r := rTn K (behindN f w)) (ead_cons (ed_masks (ed_var rfl hx) T.c_Table T.na_Table_masks) (ead_cons (ed_masks (ed_var rfl hy) T.c_Table T.na_Table_masks) ead_nil)) fun vs G2 e3 ra => by
      obtain ⟨u, v, rfl, hu, hv⟩ := ra2 ra
      exact SpD.of ⟨u, v, f, w, rfl, hu, hv, by rw [wf.len]; omega, by rw [wf.len, ww.len], rfl⟩) ead_nil) fun vs G2 e3 ra => by
      obtain ⟨u, rfl, hu⟩ := ra1 ra
      have wr : Wf n (behindN f w) := behindN_wf wf ww
      exact SpD.of ⟨u, _, rfl, .inl hu, wr.len.symm ▸ wr, by rw [wr.len]; exact h1, by rw [wr.len]; exact h6, rfl⟩) fun v G3 H3 g hv => k v G3 H3 ⟨g.g, (e1.trans e2).trans g.h, g.i, fun a o z y => g.n a o ((e1.trans e2) a o z) y⟩ hv
theorem sc_Table___lshift__ : FnScope ["self", "other"] ["self", "other"] (defScope s_Table___lshift__) := ⟨rfl, rfl, rfl, by decide +kernel, rfl, by decide +kernel, by decide +kernel⟩
theorem b_Table___lshift__ (T : Tx K mg) : Binds K T.fd_Table___lshift__ ["self", "other"] [] := T.F_Table___lshift__.bindsN fun _ _ _ _ _ _ us hl => match us, hl with | [_, _], _ => rfl
def R_Table_lshift (K : PySem.W.Frag) (C : Addr) : List V → Hp → Rp → Prop := fun vs G r => ∃ (x y : V) (f w : List Nat) (n : Nat), vs = [x, y] ∧ (rTab K C f).p x G ∧ (rTab K C w).p y G ∧ Wf n f ∧ Wf n w ∧ 1 ≤ n ∧ n ≤ 6 ∧ r = rTab K C (aheadN f w)
theorem ok_Table___lshift__ (T : Tx K mg) : FnOk P w K mg base CX0 6 T.f_Table___lshift__ T.fd_Table___lshift__ ["self", "other"] (spD (R_Table_lshift K T.C_Table)) := by
  refine T.F_Table___lshift__.ok sc_Table___lshift__ (fun vs H Q E h => ?_) (fun cdv A outer s H vs Q E hr h => ?_)
  · obtain ⟨G, r, _, ⟨x, y, f, w, n, rfl, _⟩, _⟩ := h
    rfl
  · obtain ⟨G, r, e, ⟨x, y, f, w, n, rfl, hx, hy, wf, ww, h1, h6, rfl⟩, k⟩ := h
    refine ⟨_, PSs.nox (pss_cons (ps_if (pt_not (pt_val (pe_callB (call_isiK K) (by rfl) T.m_isinstance (by decide +kernel) (pa_cons (pv 1) (pa_cons (pe_glob (v := .ref T.C_Table) (by rfl) T.g_Table rfl) pa_nil))))) (pss_one ps_never) pss_nil)
      (pss_cons (ps_expr (pe_call (ok_check_sizes T) (hr.mono (by decide)) (by rfl) T.g_check_sizes T.F_check_sizes.kp (b_check_sizes T) .nil pass0 (pa_cons (pe_fldK K (pv 0)) (pa_cons (pe_fldK K (pv 1)) pa_nil))))
      (pss_one (ps_ret (pe_call (ok_table_of_masks T) (hr.mono (by decide)) (by rfl) T.g_table_of_masks T.F_table_of_masks.kp (b_table_of_masks T) .nil pass0 (pa_cons (pe_call (ok_greatest_ahead T) (hr.mono (by decide)) (by rfl) T.g_greatest_ahead T.F_greatest_ahead.kp (b_greatest_ahead T) .nil pass0 (pa_cons (pe_fldK K (pv 0)) (pa_cons (pe_fldK K (pv 1)) pa_nil))) pa_nil)))))), ?_⟩
    refine sq (s_ifE e (et_not (et_B (is_tab T.ic_Table (ed_var rfl hy)))) (fun hb H1 e1 => ?_) (fun hb H1 e1 => ?_))
    · cases hb
    refine nxt (sq (s_doE (e.trans e1) (ev_callD (v := .non) (ead_cons (Ev.d (ev_size (ed_var rfl hx) T.c_Table T.na_Table_size)) (ead_cons (Ev.d (ev_size (ed_var rfl hy) T.c_Table T.na_Table_size)) ead_nil)) fun vs G2 e2 ra => ?_) fun H2 e2 => ?_))
    · obtain ⟨u, v, rfl, hu, hv⟩ := ra2 ra
      obtain rfl : u = V.int (f.length : Int) := hu
      obtain rfl : v = V.int (w.length : Int) := hv
      rw [wf.len, ww.len]
      exact SpD.of ⟨_, rfl, rfl⟩
    refine s_retD ((e.trans e1).trans e2) (ed_call (ead_cons (ed_call (r := rTn K (aheadN f w)) (ead_cons (ed_masks (ed_var rfl hx) T.c_Table T.na_Table_masks) (ead_cons (ed_masks (ed_var rfl hy) T.c_Table T.na_Table_masks) ead_nil)) fun vs G2 e3 ra => by
      obtain ⟨u, v, rfl, hu, hv⟩ := ra2 ra
      exact SpD.of ⟨u, v, f, w, rfl, hu, hv, by rw [wf.len]; omega, by rw [wf.len, ww.len], rfl⟩) ead_nil) fun vs G2 e3 ra => by
      obtain ⟨u, rfl, hu⟩ := ra1 ra
      have wr : Wf n (aheadN f w) := aheadN_wf wf ww
      exact SpD.of ⟨u, _, rfl, .inl hu, wr.len.symm ▸ wr, by rw [wr.len]; exact h1, by rw [wr.len]; exact h6, rfl⟩) fun v G3 H3 g hv => k v G3 H3 ⟨g.g, (e1.trans e2).trans g.h, g.i, fun a o z y => g.n a o ((e1.trans e2) a o z) y⟩ hv
end
end MuL

namespace MuL
open PySem PySem.Spec PyProof.Rows L2 He Evl Mu
section
variable {P : Program} {w : World} {K : PySem.W.Frag} {mg : Str → Option Value} {base : Heap}
theorem sc__law_box : FnScope ["_law_script", "_law_cell"] ["_law_script"] (defScope s__law_box) := ⟨rfl, rfl, rfl, by decide +kernel, rfl, by decide +kernel, by decide +kernel⟩
theorem b__law_box (T : Tx K mg) : Binds K T.fd__law_box ["_law_script"] [] := T.F__law_box.bindsN fun _ _ _ _ _ _ us hl => match us, hl with | [_], _ => rfl
theorem ok__law_box (T : Tx K mg) : FnOk P w K mg base CX0 1 T.f__law_box T.fd__law_box ["_law_script"] (spBoxMk K) := by
  refine T.F__law_box.ok sc__law_box (fun vs H Q E h => ?_) (fun cdv A outer s H vs Q E hr h => ?_)
  · obtain ⟨a, ns, rfl, _⟩ := h
    rfl
  · obtain ⟨a, ns, rfl, hS, hl, k⟩ := h
    refine ⟨_, PSs.nox (pss_one (ps_ret (pe_lst (pa_cons (pe_lc (own := [("_law_cell", 1)]) (by rfl) sc__law_box.nd (pi_listK K (pe_slice (sl_listK K) (pv 0) po_none (po_some pe_int))) (blkOk_by (N := ["_law_script", "_law_cell"]) (sc := defScope s__law_box) (by decide +kernel)) (fun _ _ _ _ _ => (pg_name (i := 1) sc__law_box.nd rfl (Or.inl rfl))) (fun _ _ _ _ _ => pts_nil) (fun _ _ _ _ _ => (pe_callB call_abs (by rfl) T.m_abs (by decide +kernel) (pa_cons (pe_callTy call_int1 (by rfl) T.m_int (by decide +kernel) (pa_cons (pv 1) pa_nil)) pa_nil)))) (pa_cons pe_int (pa_cons pe_int (pa_cons pe_int pa_nil))))))), ?_⟩
    have hcut : cutR (ns.map Mu.rI) none (some 63) = (cutR ns none (some 63)).map Mu.rI := cutR_map _ _ _ _
    have hcl : (cutR ns none (some 63)).length ≤ 63 := by
      unfold cutR
      rw [List.length_take, List.length_drop]; omega
    have src : EvD (tSl (rSlL K) (tVar 0) tNoPart (tPart (tC (.int 63)))) [some (V.ref a), none] H (rL K ((cutR ns none (some 63)).map Mu.rI)) := hcut ▸ EvN.d (en_slL (ed_var (r := rLs K (ns.map Mu.rI)) rfl ⟨a, _, rfl, hS, ra_ints⟩) (fun _ _ => eo_none) (fun _ _ => eo_some ev_c))
    have lc := en_lcL0 (cutR ns none (some 63)) Mu.rI (fun i => Mu.rI (if i < 0 then -i else i)) src (by omega) (vs := [1]) (j := 1) (fun _ => rfl) (te := tCB (fun xs H Q => ∃ i, xs = [.int i] ∧ Q (.int (if i < 0 then -i else i)) H) (tCons (tCB (fun xs H Q => (∃ i, xs = [.int i] ∧ Q (.int i) H) ∨ ∃ k, xs = [.bl k] ∧ Q (.int (if k then 1 else 0)) H) (tCons (tVar 1) tNil)) tNil)) fun i y G1 hi e1 hy => by
      obtain rfl : y = V.int i := hy
      exact Ev.d (ev_abs (ev_int (ev_var rfl)))
    refine s_retN (Ex.refl H) (en_lst (ead_cons (EvN.d (K := K) lc) (ead_cons (Ev.d ev_c) (ead_cons (Ev.d ev_c) (ead_cons (Ev.d ev_c) ead_nil)))) (by show 4 ≤ 100000; decide)) fun p vs G2 H2 g hp gp h2 ra => ?_
    cases ra with
    | cons h1 t1 =>
      obtain ⟨x, y, z, rfl, hx, hy, hz⟩ := ra3 t1
      obtain rfl : x = V.int 0 := hx
      obtain rfl : y = V.int 0 := hy
      obtain rfl : z = V.int 0 := hz
      obtain ⟨c, ws, rfl, hc, rc⟩ := h1
      rw [show (cutR ns none (some 63)).map (fun i => Mu.rI (if i < 0 then -i else i)) = ((cutR ns none (some 63)).map (fun i => if i < 0 then -i else i)).map Mu.rI by rw [List.map_map]; rfl] at rc
      have ew := ra_ints_eq rc
      subst ew
      refine k p G2 H2 g.g g.i hp gp ⟨c, _, 0, 0, 0, h2, hc, fun z hz => ?_, by omega, by omega, by omega, by omega⟩
      obtain ⟨i, _, rfl⟩ := List.mem_map.mp hz
      split <;> omega
theorem sc__law_take : FnScope ["_law_box_here", "_law_many", "_law_digit", "_law_cell"] ["_law_box_here", "_law_many"] (defScope s__law_take) := ⟨rfl, rfl, rfl, by decide +kernel, rfl, by decide +kernel, by decide +kernel⟩
theorem b__law_take (T : Tx K mg) : Binds K T.fd__law_take ["_law_box_here", "_law_many"] [] := T.F__law_take.bindsN fun _ _ _ _ _ _ us hl => match us, hl with | [_, _], _ => rfl
theorem ok__law_take (T : Tx K mg) : FnOk P w K mg base CX0 1 T.f__law_take T.fd__law_take ["_law_box_here", "_law_many"] (spT K) := by
  refine T.F__law_take.ok sc__law_take (fun vs H Q E h => ?_) (fun cdv A outer s H vs Q E hr h => ?_)
  · obtain ⟨G, b, m, rfl, _⟩ := h
    rfl
  · obtain ⟨G, b, m, rfl, e, gb, hbox, h0, h1, k⟩ := h
    obtain ⟨c, cells, i, x, y, hb, hc, hcp, hi, hx, hy, hy2⟩ := hbox.ex
    refine ⟨_, PSs.nox (pss_cons (ps_if (pt_cmpR op_gt (pe_ix (ix_listK K) (pv 0) pe_int (fun _ _ => rfl)) pe_int (nomark _)) (pss_cons (ps_set (i := 2) sc__law_take.nd rfl (Or.inl rfl) (pe_op op_mod (pe_callTy call_int1 (by rfl) T.m_int (by decide +kernel) (pa_cons (pe_ix (ix_listK K) (pv 0) pe_int (fun _ _ => rfl)) pa_nil)) (pv 1)))
      (pss_cons (ps_asg (pe_op op_fdiv (pe_ix (ix_listK K) (pv 0) pe_int (fun _ _ => rfl)) (pv 1)) (pg_sub (pv 0) pe_int set_list))
      (pss_one (ps_ret (pv 2))))) pss_nil)
      (pss_cons (ps_set (i := 3) sc__law_take.nd rfl (Or.inl rfl) pe_int)
      (pss_cut (ps_if (pt_cmpR op_lt (pe_ix (ix_listK K) (pv 0) pe_int (fun _ _ => rfl)) (pe_callB (call_lenK K) (by rfl) T.m_len PySem.boot_len (pa_cons (pe_ix (ix_listK K) (pv 0) pe_int (fun _ _ => rfl)) pa_nil)) (nomark _)) (pss_cons (ps_set (i := 3) sc__law_take.nd rfl (Or.inl rfl) (pe_ix (ix_listK K) (pe_ix (ix_listK K) (pv 0) pe_int (fun _ _ => rfl)) (pe_ix (ix_listK K) (pv 0) pe_int (fun _ _ => rfl)) (fun _ _ => rfl)))
      (pss_one (ps_asg (pe_op op_add (pe_ix (ix_listK K) (pv 0) pe_int (fun _ _ => rfl)) pe_int) (pg_sub (pv 0) pe_int set_list)))) pss_nil)
      (pss_cons (ps_if (pt_cmpR op_ge (pv 3) (pe_op op_pow pe_int pe_int) (nomark _)) (pss_cons (ps_asg (pe_op op_fdiv (pv 3) (pv 1)) (pg_sub (pv 0) pe_int set_list))
      (pss_one (ps_ret (pe_op op_mod (pe_callTy call_int1 (by rfl) T.m_int (by decide +kernel) (pa_cons (pv 3) pa_nil)) (pv 1))))) pss_nil)
      (pss_cons (ps_asg (pe_op op_mod (pe_callTy call_int1 (by rfl) T.m_int (by decide +kernel) (pa_cons (pe_op op_add (pe_op op_mul (pe_ix (ix_listK K) (pv 0) pe_int (fun _ _ => rfl)) pe_int) (pv 3)) pa_nil)) pe_int) (pg_sub (pv 0) pe_int set_list))
      (pss_one (ps_ret (pe_op op_mod (pe_callTy call_int1 (by rfl) T.m_int (by decide +kernel) (pa_cons (pe_op op_fdiv (pe_op op_mod (pe_callTy call_int1 (by rfl) T.m_int (by decide +kernel) (pa_cons (pe_op op_mul (pe_ix (ix_listK K) (pv 0) pe_int (fun _ _ => rfl)) pe_int) pa_nil)) pe_int) pe_int) pa_nil)) (pv 1))))))))), ?_⟩
    have fin : ∀ (i' x' y' : Int) (H' : Hp) (d : Int), H' b = some (.lst [.ref c, .int i', .int x', .int y']) → 0 ≤ i' → 0 ≤ x' → 0 ≤ y' → y' < 2147483647 → (∀ a o, H a = some o → a ≠ b → H' a = some o) → 0 ≤ d → d < (m : Int) → Q (.int d) H' := by
      intro i' x' y' H' d h1 h2 h3 h4 h5 h6 h7 h8
      have z := k d.toNat H' (by omega) h6 fun G' hb' => by
        obtain ⟨c2, cells2, i2, x2, y2, b1, b2, b3, _⟩ := hb'.ex
        rw [hb] at b1
        injection b1 with b1
        injection b1 with b1
        injection b1 with b1 _
        injection b1 with b1
        subst b1
        exact ⟨c, cells2, i', x', y', h1, b2, b3, h2, h3, h4, h5⟩
      rwa [Int.toNat_of_nonneg h7] at z
    have mp : (0 : Int) < (m : Int) := by omega
    have md : CDiv x (m : Int) := ⟨mp, by omega⟩
    -- if box[2] > 0
    refine sq (s_ifE (Ex.refl H) (et_cmp (ev_op (ev_var rfl) ev_c (rv_ixL (sq_of hb) rfl)) ev_c) (fun hb1 H1 e1 => ?_) (fun hb1 H1 e1 => ?_))
    · refine sq (Mu.s_set e1 (ev_op (ev_int (ev_op (ev_var rfl) ev_c (rv_ixL (sq_of hb) rfl))) (ev_var rfl) (rv_I mp)) fun H2 e2 => ?_)
      have hb2 := e2 _ _ (e1 _ _ hb)
      refine sq (s_setL (j := 2) hb2 (ev_op (ev_op (ev_var rfl) ev_c (rv_ixL (sq_of hb2) rfl)) (ev_var rfl) (rv_I md)) (ev_var rfl) ev_c (by show 2 < 4; decide) fun H3 e3 => ?_)
      refine s_retE (Ex.refl _) (ev_var rfl) fun H4 e4 => ?_
      refine fin i (x / (m : Int)) y H4 _ (e4 _ _ upd_same) hi (Int.ediv_nonneg hx (by omega)) hy hy2 (fun a o z n => e4 _ _ (by rw [upd_ne n]; exact e3 _ _ (e2 _ _ (e1 _ _ z)))) (Int.emod_nonneg _ (by omega)) (Int.emod_lt_of_pos _ mp)
    -- cell = 0
    refine nxt ?_
    dsimp only
    refine sq (Mu.s_set e1 ev_c fun H2 e2 => ?_)
    have hb2 := e2 _ _ (e1 _ _ hb)
    have eG2 : Ex G H2 := e.trans (e1.trans e2)
    have hx0 : x ≤ 0 := by
      have q := of_decide_eq_false hb1
      omega
    have hcl : EvD (tOp (rIxL K) (tVar 0) (tC (.int 0))) [some (V.ref b), some (V.int (m : Int)), none, some (V.int 0)] (upd G b (.lst [.ref c, .int i, .int x, .int y])) (rL K (cells.map Mu.rI)) := fun H' e' Q' q' => by
      refine ⟨.ref b, rfl, b, _, 0, .ref c, rfl, rfl, sq_of (e' _ _ upd_same), rfl, q' (.ref c) _ H' (Gr.refl e') ⟨c, _, rfl, (Ex.new gb) _ _ hc, ra_ints⟩⟩
    have eB : Ex (upd G b (.lst [.ref c, .int i, .int x, .int y])) H2 := ex_add eG2 hb2
    -- if box[1] < len(box[0])
    refine ⟨fun σ' H' => ∃ i' cell : Int, σ' = [some (V.ref b), some (V.int (m : Int)), none, some (V.int cell)] ∧ H' b = some (.lst [.ref c, .int i', .int x, .int y]) ∧ 0 ≤ i' ∧ 0 ≤ cell ∧ (∀ a o, H a = some o → a ≠ b → H' a = some o), s_ifE eB (et_cmp (ev_op (ev_var rfl) ev_c (rv_ixL (sq_of upd_same) rfl)) (ev_lenL hcl (List.length_map _))) (fun hb3 H3 e3 => ?_) (fun hb3 H3 e3 => ?_), ?_⟩
    · have hlt : i < (cells.length : Int) := of_decide_eq_true hb3
      have hil : i.toNat < cells.length := by omega
      have ei : ((i.toNat : Nat) : Int) = i := Int.toNat_of_nonneg hi
      have hget : (cells.map Mu.rI)[i.toNat]? = some (Mu.rI cells[i.toNat]) := by rw [List.getElem?_map, List.getElem?_eq_getElem hil]; rfl
      refine sq (Mu.s_set (eB.trans e3) (EvD.ev (ed_ixL hcl (by rw [ei]; exact ev_op (ev_var rfl) ev_c (rv_ixL (sq_of upd_same) rfl)) hget)) fun H4 e4 => ?_)
      have hb4 := e4 _ _ (e3 _ _ hb2)
      refine s_setL (j := 1) hb4 (ev_op (ev_op (ev_var rfl) ev_c (rv_ixL (sq_of hb4) rfl)) ev_c rv_I0) (ev_var rfl) ev_c (by show 1 < 4; decide) fun H5 e5 => ?_
      exact ⟨i + 1, cells[i.toNat], rfl, upd_same, by omega, hcp _ (List.getElem_mem hil), fun a o z n => by rw [upd_ne n]; exact e5 _ _ (e4 _ _ (e3 _ _ (e2 _ _ (e1 _ _ z))))⟩
    · exact nxt ⟨i, 0, rfl, e3 _ _ hb2, hi, by omega, fun a o z n => e3 _ _ (e2 _ _ (e1 _ _ z))⟩
    · rintro σ' H3 ⟨i', cell, rfl, hb3, hi3, hcell, keep⟩
      refine sq (s_ifE (Ex.refl H3) (et_cmp (ev_var rfl) (ev_op ev_c ev_c (rv_I ⟨by decide, by decide, by decide⟩))) (fun hb4 H4 e4 => ?_) (fun hb4 H4 e4 => ?_))
      · have hb4' := e4 _ _ hb3
        refine sq (s_setL (j := 2) hb4' (ev_op (ev_var rfl) (ev_var rfl) (rv_I ⟨mp, by omega⟩)) (ev_var rfl) ev_c (by show 2 < 4; decide) fun H5 e5 => ?_)
        dsimp only
        refine s_retE (Ex.refl _) (ev_op (ev_int (ev_var rfl)) (ev_var rfl) (rv_I mp)) fun H6 e6 => ?_
        exact fin i' (cell / (m : Int)) y H6 _ (e6 _ _ upd_same) hi3 (Int.ediv_nonneg hcell (by omega)) hy hy2 (fun a o z n => e6 _ _ (by rw [upd_ne n]; exact e5 _ _ (e4 _ _ (keep a o z n)))) (Int.emod_nonneg _ (by omega)) (Int.emod_lt_of_pos _ mp)
      · have hb4' := e4 _ _ hb3
        have hc18 : cell < 10 ^ 18 := by
          have q := of_decide_eq_false hb4
          have q2 : ¬ ((10 : Int) ^ (18 : Int).toNat ≤ cell) := q
          have q3 : (10 : Int) ^ (18 : Int).toNat = 10 ^ 18 := rfl
          rw [q3] at q2
          omega
        refine nxt ?_
        dsimp only
        refine sq (s_setL (j := 3) hb4' (ev_op (ev_int (ev_op (ev_op (ev_op (ev_var rfl) ev_c (rv_ixL (sq_of hb4') rfl)) ev_c (rv_I (Or.inl ⟨by omega, by omega⟩))) (ev_var rfl) rv_I0)) ev_c (rv_I (by decide))) (ev_var rfl) ev_c (by show 3 < 4; decide) fun H5 e5 => ?_)
        have ny0 : (0 : Int) ≤ (y * 48271 + cell) % 2147483647 := Int.emod_nonneg _ (by decide)
        have ny1 : (y * 48271 + cell) % 2147483647 < 2147483647 := Int.emod_lt_of_pos _ (by decide)
        have hb6 : (upd H5 b (.lst ([V.ref c, .int i', .int x, .int y].set 3 (.int ((y * 48271 + cell) % 2147483647))))) b = some (.lst [.ref c, .int i', .int x, .int ((y * 48271 + cell) % 2147483647)]) := upd_same
        dsimp only
        refine s_retE (Ex.refl _) (ev_op (ev_int (ev_op (ev_op (ev_int (ev_op (ev_op (ev_var rfl) ev_c (rv_ixL (sq_of hb6) rfl)) ev_c (rv_I (Or.inl ⟨by omega, by omega⟩)))) ev_c (rv_I (by decide))) ev_c (rv_I ⟨by decide, by decide⟩))) (ev_var rfl) (rv_I mp)) fun H6 e6 => ?_
        exact fin i' x _ H6 _ (e6 _ _ hb6) hi3 hx ny0 ny1 (fun a o z n => e6 _ _ (by rw [upd_ne n]; exact e5 _ _ (e4 _ _ (keep a o z n)))) (Int.emod_nonneg _ (by omega)) (Int.emod_lt_of_pos _ mp)
end
end MuL

namespace MuL
open PySem PySem.Spec PyProof.Rows L2 He Evl Mu
section
variable {P : Program} {w : World} {K : PySem.W.Frag} {mg : Str → Option Value} {base : Heap}
theorem sc__law_words : FnScope ["_law_box_here", "_law_n", "_law_least", "_law_mask", "_law_word"] ["_law_box_here", "_law_n", "_law_least"] (defScope s__law_words) := ⟨rfl, rfl, rfl, by decide +kernel, rfl, by decide +kernel, by decide +kernel⟩
theorem b__law_words (T : Tx K mg) : Binds K T.fd__law_words ["_law_box_here", "_law_n", "_law_least"] [] := T.F__law_words.bindsN fun _ _ _ _ _ _ us hl => match us, hl with | [_, _, _], _ => rfl
def R_words : List V → Hp → (List Rp → Prop) → Prop := fun ws _ PP => ∃ n least : Nat, ws = [.int (n : Int), .int (least : Int)] ∧ n ≤ 6 ∧ least < 2 ^ n ∧ PP = fun rs => ∃ mask, least ≤ mask ∧ mask < 2 ^ n ∧ rs = (bitsN mask).map nI
theorem ok__law_words (T : Tx K mg) : FnOk P w K mg base CX0 2 T.f__law_words T.fd__law_words ["_law_box_here", "_law_n", "_law_least"] (spBN K R_words) := by
  refine T.F__law_words.ok sc__law_words (fun vs H Q E h => ?_) (fun cdv A outer s H vs Q E hr h => ?_)
  · obtain ⟨G, b, ws, PP, rfl, _, _, _, ⟨n, least, rfl, _⟩, _⟩ := h
    rfl
  · obtain ⟨G, b, ws, PP, rfl, e, gb, hbox, ⟨n, least, rfl, hn, hl, rfl⟩, k⟩ := h
    refine ⟨_, PSs.nox (pss_cons (ps_set (i := 3) sc__law_words.nd rfl (Or.inr rfl) (pe_op op_add (pv 2) (pe_call (ok__law_take T) (hr.mono (by decide)) (by rfl) T.g__law_take T.F__law_take.kp (b__law_take T) .nil pass0 (pa_cons (pv 0) (pa_cons (pe_op op_sub (pe_ix (ix_listK K) (pe_lst (pa_cons pe_int (pa_cons pe_int (pa_cons pe_int (pa_cons pe_int (pa_cons pe_int (pa_cons pe_int (pa_cons pe_int pa_nil)))))))) (pv 1) (fun _ _ => rfl)) (pv 2)) pa_nil)))))
      (pss_one (ps_ret (pe_lc (own := [("_law_word", 4)]) (by rfl) sc__law_words.nd (pi_range1 (by rfl) T.m_range (pa_cons (pv 1) pa_nil)) (blkOk_by (N := ["_law_box_here", "_law_n", "_law_least", "_law_mask", "_law_word"]) (sc := defScope s__law_words) (by decide +kernel)) (fun _ _ _ _ _ => (pg_name (i := 4) sc__law_words.nd rfl (Or.inl rfl))) (fun _ _ _ _ _ => (pts_one (pt_cmpR op_eq (pe_op op_mod (pe_callTy call_int1 (by rfl) T.m_int (by decide +kernel) (pa_cons (pe_op op_fdiv (pv 3) (pe_ix (ix_listK K) (pe_lst (pa_cons pe_int (pa_cons pe_int (pa_cons pe_int (pa_cons pe_int (pa_cons pe_int (pa_cons pe_int pa_nil))))))) (pv 4) (fun _ _ => rfl))) pa_nil)) pe_int) pe_int (nomark _)))) (fun _ _ _ _ _ => (pv 4)))))), ?_⟩
    have p6 : (2 : Nat) ^ n ≤ 2 ^ 6 := Nat.pow_le_pow_right (by decide) hn
    have e0 : ((2 ^ n : Nat) : Int) - (least : Int) = ((2 ^ n - least : Nat) : Int) := by omega
    refine sq (s_setB e gb hbox (eb_opN (ev_var rfl) (eb_take (m := 2 ^ n - least) rfl (by rw [← e0]; exact ev_op (EvD.ev (ed_ixL (K := K) (EvN.d (en_lst (ead_cons (Ev.d ev_c) (ead_cons (Ev.d ev_c) (ead_cons (Ev.d ev_c) (ead_cons (Ev.d ev_c) (ead_cons (Ev.d ev_c) (ead_cons (Ev.d ev_c) (ead_cons (Ev.d ev_c) ead_nil))))))) (by show 7 ≤ 100000; decide))) (ev_var rfl) (pow_list hn))) (ev_var rfl) rv_I0) (by omega) (by omega)) (fun d => .int ((least : Int) + (d : Int))) fun d _ H Q q => ⟨_, _, rfl, rfl, q⟩) fun r v G2 H2 hP g hb2 hv => ?_)
    obtain ⟨d, hd, rfl⟩ := hP
    obtain rfl : v = V.int ((least : Int) + (d : Int)) := hv
    have em : (least : Int) + (d : Int) = ((least + d : Nat) : Int) := by omega
    rw [em]
    refine s_retN (rs := (bitsN (least + d)).map nI) g.i (en_is (en_lcR n (fun w => (least + d).testBit w) nI (ea_cons (ev_var rfl) ea_nil) (by omega) (fun _ => rfl) (fun w G1 hw e1 => ?_) (fun w G1 hw _ e1 => Ev.d (ev_var rfl))) ?_) fun p vs G3 H3 g3 hp gp h3 ra => ?_
    · refine et_is (et_eq (ev_op (ev_int (ev_op (ev_var rfl) (EvD.ev (ed_ixL (K := K) (EvN.d (en_lst (ead_cons (Ev.d ev_c) (ead_cons (Ev.d ev_c) (ead_cons (Ev.d ev_c) (ead_cons (Ev.d ev_c) (ead_cons (Ev.d ev_c) (ead_cons (Ev.d ev_c) ead_nil)))))) (by show 6 ≤ 100000; decide))) (ev_var rfl) (pow_list6 (by omega)))) (rv_I ⟨?_, ?_⟩))) ev_c (rv_I (by decide))) ev_c rfl) ?_
      · have := Nat.two_pow_pos w; omega
      · have : (2 : Nat) ^ w ≤ 2 ^ 5 := Nat.pow_le_pow_right (by decide) (by omega)
        omega
      · rw [← test_div]
        simp
    · rw [bits_eq (show least + d < 2 ^ n by omega)]
    · have hpH := (g.fresh hb2.at_ hp).1
      exact k _ p vs G3 H3 ⟨least + d, by omega, by omega, rfl⟩ (g.trans gb hbox.at_ g3.b hb2.at_) (hb2.mono g3.g g3.h) hpH gp h3 ra
theorem sc__law_rows : FnScope ["_law_box_here", "_law_n", "_law_least", "_law_rows_here", "_law_k"] ["_law_box_here", "_law_n", "_law_least"] (defScope s__law_rows) := ⟨rfl, rfl, rfl, by decide +kernel, rfl, by decide +kernel, by decide +kernel⟩
theorem b__law_rows (T : Tx K mg) : Binds K T.fd__law_rows ["_law_box_here", "_law_n", "_law_least"] [] := T.F__law_rows.bindsN fun _ _ _ _ _ _ us hl => match us, hl with | [_, _, _], _ => rfl
def R_lrows (K : PySem.W.Frag) : List V → Hp → (List Rp → Prop) → Prop := fun ws _ PP => ∃ n least : Nat, ws = [.int (n : Int), .int (least : Int)] ∧ 1 ≤ n ∧ n ≤ 6 ∧ least ≤ 1 ∧ PP = fun rs => ∃ m, Wf n m ∧ (∀ x ∈ m, least ≤ x) ∧ rs = (m.map bitsN).map (rLn K)
/-- between two turns -/
def lrowsI (K : PySem.W.Frag) (G0 H0 : Hp) (b p : Addr) (n least i : Nat) (σ' : L2.St) (H' : Hp) : Prop := ∃ (G' : Hp) (ws : List V) (m : List Nat) (u : Option V), σ' = [some (V.ref b), some (.int (n : Int)), some (.int (least : Int)), some (.ref p), u] ∧ GrB b G0 H0 G' H' ∧ Box K G' H' b ∧ G' p = none ∧ H' p = some (.lst ws) ∧ RA G' ws ((m.map bitsN).map (rLn K)) ∧ m.length = i ∧ ∀ x ∈ m, least ≤ x ∧ x < 2 ^ n
theorem lrows_app {K : PySem.W.Frag} {G0 H0 G H : Hp} {b p : Addr} {n least i : Nat} {ws : List V} {m : List Nat} {te : TE} {D : Ends} {u : Option V} (hp0 : H0 p = none) (gb0 : G0 b = none) (hb0 : ∃ o, H0 b = some o) (pb : p ≠ b) (g : GrB b G0 H0 G H) (hbx : Box K G H b) (gp : G p = none) (hp : H p = some (.lst ws)) (ra : RA G ws ((m.map bitsN).map (rLn K))) (hlen : m.length = i) (hi : i < 100) (hm : ∀ x ∈ m, least ≤ x ∧ x < 2 ^ n)
    (hte : EvB K te [some (V.ref b), some (.int (n : Int)), some (.int (least : Int)), some (.ref p), u] b G (fun r => ∃ x, least ≤ x ∧ x < 2 ^ n ∧ r = rLn K (bitsN x))) (hD : ∀ σ' H', lrowsI K G0 H0 b p n least (i + 1) σ' H' → D.nx σ' H') :
    tDrop (tBM K "list" rAppend (tVar 3) (tCons te tNil)) D [some (V.ref b), some (.int (n : Int)), some (.int (least : Int)), some (.ref p), u] H := by
  refine s_appB g.i (g.out gb0 hb0) hbx hp gp pb ra (ev_var rfl) hte (by rw [List.length_map, List.length_map, hlen]; omega) fun r ws' G3 H3 hP e3 k3 i3 n3 hb3 hp3 ra3 => ?_
  obtain ⟨x, hx1, hx2, rfl⟩ := hP
  refine hD _ _ ⟨G3, ws', m ++ [x], _, rfl, g.app hp0 gb0 hb0 hbx.at_ e3 k3 i3 n3, hb3, n3 p _ hp gp, hp3, ?_, by rw [List.length_append, hlen]; rfl, fun y hy => ?_⟩
  · rw [List.map_append, List.map_append]; exact ra3
  · rcases List.mem_append.mp hy with q | q
    · exact hm y q
    · simp at q; subst q; exact ⟨hx1, hx2⟩
theorem ok__law_rows (T : Tx K mg) : FnOk P w K mg base CX0 3 T.f__law_rows T.fd__law_rows ["_law_box_here", "_law_n", "_law_least"] (spBN K (R_lrows K)) := by
  refine T.F__law_rows.ok sc__law_rows (fun vs H Q E h => ?_) (fun cdv A outer s H vs Q E hr h => ?_)
  · obtain ⟨G, b, ws, PP, rfl, _, _, _, ⟨n, least, rfl, _⟩, _⟩ := h
    rfl
  · obtain ⟨G, b, ws, PP, rfl, e, gb, hbox, ⟨n, least, rfl, h1, hn, hl, rfl⟩, k⟩ := h
    refine ⟨_, PSs.nox (pss_cons (ps_set (i := 3) sc__law_rows.nd rfl (Or.inl rfl) (pe_lst pa_nil))
      (pss_cons (ps_for PassesOwn.never rfl (pi_range1 (by rfl) T.m_range (pa_cons (pv 1) pa_nil)) (pg_name (i := 4) sc__law_rows.nd rfl (Or.inl rfl)) (pss_one (ps_if (pt_cmpR op_eq (pe_call (ok__law_take T) (hr.mono (by decide)) (by rfl) T.g__law_take T.F__law_take.kp (b__law_take T) .nil pass0 (pa_cons (pv 0) (pa_cons pe_int pa_nil))) pe_int (nomark _)) (pss_one (ps_expr (pe_bm PySem.F.plainAttrs_list PySem.F.slot_list_append PySem.F.type_list_append mt_append (pv 3) (pa_cons (pe_lst (pa_cons (pe_call (ok__law_take T) (hr.mono (by decide)) (by rfl) T.g__law_take T.F__law_take.kp (b__law_take T) .nil pass0 (pa_cons (pv 0) (pa_cons (pv 1) pa_nil))) pa_nil)) pa_nil)))) (pss_one (ps_expr (pe_bm PySem.F.plainAttrs_list PySem.F.slot_list_append PySem.F.type_list_append mt_append (pv 3) (pa_cons (pe_call (ok__law_words T) (hr.mono (by decide)) (by rfl) T.g__law_words T.F__law_words.kp (b__law_words T) .nil pass0 (pa_cons (pv 0) (pa_cons (pv 1) (pa_cons (pv 2) pa_nil)))) pa_nil)))))))
      (pss_one (ps_ret (pv 3))))), ?_⟩
    have p1 : 2 ≤ (2 : Nat) ^ n := by
      have : (2 : Nat) ^ 1 ≤ 2 ^ n := Nat.pow_le_pow_right (by decide) h1
      omega
    refine sq (s_setN e (en_lst ead_nil (by decide)) fun p vs G1 H1 g1 hp gp h2 ra => ?_)
    cases ra
    have hpb : p ≠ b := fun z => by
      subst z
      obtain ⟨o, z2⟩ := hbox.at_
      rw [z2] at hp; cases hp
    refine sq (Mu.s_forR n g1.i (ea_cons (ev_var rfl) ea_nil) (by omega) (fun i σ' H' => lrowsI K G H b p n least i σ' H') (fun H2 e2 => ⟨G1, [], [], none, rfl, (g1.more e2).b, hbox.mono g1.g (g1.h.trans e2), gp, e2 _ _ h2, .nil, rfl, fun x hx => nomatch hx⟩) ?_ ?_)
    · rintro i σ' H' hi ⟨G', ws, m, u, rfl, g, hbx, gp', hp', ra, hlen, hm⟩
      have gb' : G' b = none := g.out gb hbox.at_
      refine s_ifB g.i gb' hbx (et_bN (f := fun d => decide (V.int (d : Int) = V.int 1)) (eb_opN' (eb_take (m := 3) rfl ev_c (by decide) (by decide)) (fun _ _ => ev_c) (fun d => .bl (decide (V.int (d : Int) = V.int 1))) fun d _ H Q q => ⟨rfl, q⟩)) (fun _ G2 H2 g2 hb2 => ?_) (fun _ G2 H2 g2 hb2 => ?_)
      · refine lrows_app (m := m) hp gb hbox.at_ hpb (g.trans gb hbox.at_ g2 hbx.at_) hb2 (g2.n _ _ hp' gp') (g2.h _ _ hp' hpb) (ra.mono g2.g) hlen (by omega) hm (EvB.imp (EvBN.d (ebn_lst1 (eb_take rfl (ev_var rfl) (by omega) (by omega)))) fun r hP => ?_) fun _ _ z => z
        obtain ⟨rs, ⟨d, hd, rfl⟩, rfl⟩ := hP
        refine ⟨2 ^ d, ?_, Nat.pow_lt_pow_right (by decide) hd, by rw [bits_pow]; rfl⟩
        have := Nat.two_pow_pos d
        omega
      · refine lrows_app (m := m) hp gb hbox.at_ hpb (g.trans gb hbox.at_ g2 hbx.at_) hb2 (g2.n _ _ hp' gp') (g2.h _ _ hp' hpb) (ra.mono g2.g) hlen (by omega) hm (EvB.imp (EvBN.d (ebn_call (P := fun rs => ∃ mask, least ≤ mask ∧ mask < 2 ^ n ∧ rs = (bitsN mask).map nI) rfl (ead_cons (Ev.d (ev_var rfl)) (ead_cons (Ev.d (ev_var rfl)) ead_nil)) fun ws G3 e3 ra3 => ?_)) fun r hP => ?_) fun _ _ z => z
        · obtain ⟨x, y, rfl, hx, hy⟩ := ra2 ra3
          obtain rfl : x = V.int (n : Int) := hx
          obtain rfl : y = V.int (least : Int) := hy
          exact ⟨n, least, rfl, hn, by omega, rfl⟩
        · obtain ⟨rs, ⟨x, h1, h2, rfl⟩, rfl⟩ := hP
          exact ⟨x, h1, h2, rfl⟩
    · rintro σ' H' ⟨G', ws, m, u, rfl, g, hbx, gp', hp', ra, hlen, hm⟩
      refine s_retE (Ex.refl H') (ev_var rfl) fun H4 e4 => ?_
      exact k _ p ws G' H4 ⟨m, ⟨hlen, fun x hx => (hm x hx).2⟩, fun x hx => (hm x hx).1, rfl⟩ (g.more e4) (hbx.mono (Ex.refl _) e4) hp gp' (e4 _ _ hp') ra
theorem sc__law_is : FnScope ["_law_value", "_law_due"] ["_law_value", "_law_due"] (defScope s__law_is) := ⟨rfl, rfl, rfl, by decide +kernel, rfl, by decide +kernel, by decide +kernel⟩
theorem b__law_is (T : Tx K mg) : Binds K T.fd__law_is ["_law_value", "_law_due"] [] := T.F__law_is.bindsN fun _ _ _ _ _ _ us hl => match us, hl with | [_, _], _ => rfl
def R_is : List V → Hp → Rp → Prop := fun vs _ r => ∃ a b : Bool, vs = [.bl a, .bl b] ∧ r = rB (decide (a = b))
theorem ok__law_is (T : Tx K mg) : FnOk P w K mg base CX0 1 T.f__law_is T.fd__law_is ["_law_value", "_law_due"] (spD R_is) := by
  refine T.F__law_is.ok sc__law_is (fun vs H Q E h => ?_) (fun cdv A outer s H vs Q E hr h => ?_)
  · obtain ⟨G, r, _, ⟨a, b, rfl, _⟩, _⟩ := h
    rfl
  · obtain ⟨G, r, e, ⟨a, b, rfl, rfl⟩, k⟩ := h
    refine ⟨_, PSs.nox (pss_cons (ps_if (pt_val (pv 1)) (pss_one (ps_ret (pe_cmpR op_isBl (pv 0) pe_bl (nomark _)))) pss_nil)
      (pss_one (ps_ret (pe_cmpR op_isBl (pv 0) pe_bl (nomark _))))), ?_⟩
    refine sq (s_ifE (b := b) e (et_B (ev_var rfl)) (fun hb H1 e1 => ?_) (fun hb H1 e1 => ?_))
    · subst hb
      exact s_retE (e.trans e1) (ev_isB (ev_var rfl) ev_c) fun H2 e2 => k _ G H2 ((Gr.refl e).more (e1.trans e2)) rfl
    · subst hb
      refine nxt ?_
      dsimp only
      exact s_retE (e.trans e1) (ev_isB (ev_var rfl) ev_c) fun H2 e2 => k _ G H2 ((Gr.refl e).more (e1.trans e2)) rfl
end
end MuL

namespace MuL
open PySem PySem.Spec PyProof.Rows L2 He Evl Mu
section
variable {P : Program} {w : World} {K : PySem.W.Frag} {mg : Str → Option Value} {base : Heap}
theorem sc__law_join : FnScope ["_law_first", "_law_last", "_law_found", "_law_row", "_law_outs", "_law_mid", "_law_out", "_law_word"] ["_law_first", "_law_last"] (defScope s__law_join) := ⟨rfl, rfl, rfl, by decide +kernel, rfl, by decide +kernel, by decide +kernel⟩
theorem b__law_join (T : Tx K mg) : Binds K T.fd__law_join ["_law_first", "_law_last"] [] := T.F__law_join.bindsN fun _ _ _ _ _ _ us hl => match us, hl with | [_, _], _ => rfl
def R_join (K : PySem.W.Frag) : List V → Hp → List Rp → Prop := fun vs G rs => ∃ (x y : V) (F M : List Nat) (n : Nat), vs = [x, y] ∧ (rLL K (F.map bitsN)).p x G ∧ (rLL K (M.map bitsN)).p y G ∧ Wf n F ∧ Wf n M ∧ n ≤ 6 ∧ rs = ((prodN F M).map bitsN).map (rLn K)
theorem ok__law_join (T : Tx K mg) : FnOk P w K mg base CX0 1 T.f__law_join T.fd__law_join ["_law_first", "_law_last"] (spN (R_join K)) := by
  refine T.F__law_join.ok sc__law_join (fun vs H Q E h => ?_) (fun cdv A outer s H vs Q E hr h => ?_)
  · obtain ⟨G, rs, _, ⟨x, y, F, M, n, rfl, _⟩, _⟩ := h
    rfl
  · obtain ⟨G, rs, e, ⟨x, y, F, M, n, rfl, hx, hy, wf, wm, h6, rfl⟩, k⟩ := h
    refine ⟨_, PSs.nox (pss_cons (ps_set (i := 2) sc__law_join.nd rfl (Or.inl rfl) (pe_lst pa_nil))
      (pss_cons (ps_for PassesOwn.never rfl (pi_listK K (pv 0)) (pg_name (i := 3) sc__law_join.nd rfl (Or.inl rfl)) (pss_cons (ps_set (i := 4) sc__law_join.nd rfl (Or.inr rfl) (pe_lst pa_nil))
      (pss_cons (ps_for PassesOwn.never rfl (pi_listK K (pv 3)) (pg_name (i := 5) sc__law_join.nd rfl (Or.inl rfl)) (pss_one (ps_set (i := 4) sc__law_join.nd rfl (Or.inr rfl) (pe_op op_cat (pv 4) (pe_lc (own := [("_law_out", 6)]) (by rfl) sc__law_join.nd (pi_listK K (pe_ix (ix_listK K) (pv 1) (pv 5) (fun _ _ => rfl))) (blkOk_by (N := ["_law_first", "_law_last", "_law_found", "_law_row", "_law_outs", "_law_mid", "_law_out", "_law_word"]) (sc := defScope s__law_join) (by decide +kernel)) (fun _ _ _ _ _ => (pg_name (i := 6) sc__law_join.nd rfl (Or.inl rfl))) (fun _ _ _ _ _ => (pts_one (pt_cmpR (op_notInK K) (pv 6) (pv 4) rfl))) (fun _ _ _ _ _ => (pv 6)))))))
      (pss_one (ps_expr (pe_bm PySem.F.plainAttrs_list PySem.F.slot_list_append PySem.F.type_list_append mt_append (pv 2) (pa_cons (pe_lc (own := [("_law_word", 7)]) (by rfl) sc__law_join.nd (pi_range1 (by rfl) T.m_range (pa_cons (pe_callB (call_lenK K) (by rfl) T.m_len PySem.boot_len (pa_cons (pv 1) pa_nil)) pa_nil)) (blkOk_by (N := ["_law_first", "_law_last", "_law_found", "_law_row", "_law_outs", "_law_mid", "_law_out", "_law_word"]) (sc := defScope s__law_join) (by decide +kernel)) (fun _ _ _ _ _ => (pg_name (i := 7) sc__law_join.nd rfl (Or.inl rfl))) (fun _ _ _ _ _ => (pts_one (pt_cmpR (op_inK K) (pv 7) (pv 4) rfl))) (fun _ _ _ _ _ => (pv 7))) pa_nil)))))))
      (pss_one (ps_ret (pv 2))))), ?_⟩
    have lenM : ((M.map bitsN).map (rLn K)).length = n := by rw [List.length_map, List.length_map, wm.len]
    have getM : ∀ i, i < n → ((M.map bitsN).map (rLn K))[i]? = some (rLn K (bitsN (M.getD i 0))) := fun i hi => by
      rw [List.map_map, List.getElem?_map, List.getD_eq_getElem?_getD, List.getElem?_eq_getElem (by rw [wm.len]; exact hi)]; rfl
    refine sq (s_setN e (en_lst ead_nil (by decide)) fun pf vs G1 H1 g1 hpf gpf h1 ra => ?_)
    cases ra
    refine sq (Mu.s_forL (F.map bitsN) (rLn K) g1.i (ed_var rfl ((rLL K _).mono g1.g hx)) (fun G2 i σ' H' => ∃ G' ws u1 u2 u3 u4 u5, σ' = [some x, some y, some (.ref pf), u1, u2, u3, u4, u5] ∧ Ex G2 H' ∧ G2 pf = none ∧ Gr G H G' H' ∧ G' pf = none ∧ H' pf = some (.lst ws) ∧ RA G' ws (((prodN (F.take i) M).map bitsN).map (rLn K))) (fun G2 H2 g2 => ⟨G2, [], _, _, _, _, _, rfl, g2.i, g2.n _ _ h1 gpf, g1.trans g2, g2.n _ _ h1 gpf, g2.h _ _ h1, .nil⟩) (fun _ _ _ _ q => by obtain ⟨_, _, _, _, _, _, _, _, q, _⟩ := q; exact q) ?_ ?_)
    · rintro G2 i row z σ' H' eG2 hi hz ⟨G', ws, u1, u2, u3, u4, u5, rfl, e2, g2p, g, gp, hp, ra⟩
      obtain ⟨fm, hfm, rfl⟩ : ∃ fm, F[i]? = some fm ∧ bitsN fm = row := by
        rw [List.getElem?_map] at hi
        cases q : F[i]? with
        | none => rw [q] at hi; cases hi
        | some fm => rw [q] at hi; exact ⟨fm, rfl, Option.some.inj hi⟩
      have hlt : fm < 2 ^ n := wf.lt fm (List.mem_of_getElem? hfm)
      have hfl := bits_len hlt
      refine sq (s_setD g.i (EvN.d (K := K) (rs := ([] : List Nat).map nI) (en_lst ead_nil (by decide))) fun q G3 H3 g3 hq => ?_)
      refine sq (Mu.s_forL (G := G2) (bitsN fm) nI (e2.trans g3.h) (ed_var rfl hz) (fun G4 j σ' H' => Ex G4 H' ∧ ∃ G'' q l v w u, σ' = [some x, some y, some (.ref pf), some z, some q, v, w, u] ∧ Ex H3 H' ∧ Gr G H G'' H' ∧ Ex G' G'' ∧ G'' pf = none ∧ (rLn K l).p q G'' ∧ l.length ≤ j * 6 ∧ ∀ o, o ∈ l ↔ ∃ m ∈ (bitsN fm).take j, o ∈ bitsN (M.getD m 0)) (fun G4 H4 g4 => ⟨g4.i, G3, q, [], _, _, _, rfl, g4.h, (g.trans g3).more g4.h, g3.g, g3.n _ _ hp gp, hq, Nat.zero_le _, fun o => by simp⟩) (fun _ _ _ _ q => q.1) ?_ ?_)
      · rintro G4 j m zz σ' H' eG4 hj hzz ⟨e4, G'', q, l, v, w, u, rfl, eH, g'', eG, gp'', hq, hll, hmem⟩
        obtain rfl : zz = V.int (m : Int) := hzz
        have hm : m < n := bit_lt hlt (mem_bits.mp (List.mem_of_getElem? hj))
        have hjl : j < (bitsN fm).length := (List.getElem?_eq_some_iff.mp hj).1
        have hbl := bits_len (wm.get m)
        have hfl2 := List.length_filter_le (fun o => !decide (o ∈ l)) (bitsN (M.getD m 0))
        refine s_setD g''.i (EvN.d (K := K) (en_cat (K := K) (ed_var rfl hq) (EvN.d (K := K) (en_lcL (bitsN (M.getD m 0)) nI (fun o => !decide (o ∈ l)) nI (ed_ixL (ed_var rfl ((rLL K _).mono g''.g hy)) (ev_var rfl) (getM m hm)) (by omega) (fun _ => rfl) (fun o zz G5 ho e5 hzz => ?_) (fun o zz G5 ho _ e5 hzz => ed_var rfl hzz))) ?_)) fun q' G6 H6 g6 hq' => ?_
        · obtain rfl : zz = V.int (o : Int) := hzz
          exact et_notIn (ev_var rfl) (ed_var rfl ((rLn K _).mono e5 hq))
        · rw [List.length_map, List.length_map]
          omega
        · refine ⟨e4.trans g6.h, G6, q', l ++ (bitsN (M.getD m 0)).filter (fun o => !decide (o ∈ l)), _, _, _, rfl, eH.trans g6.h, g''.trans g6, eG.trans g6.g, g6.n _ _ (eH _ _ (g3.h _ _ hp)) gp'', ?_, ?_, fun o => ?_⟩
          · unfold rLn
            rw [List.map_append]
            exact hq'
          · rw [List.length_append, Nat.succ_mul]
            omega
          · rw [List.mem_append, List.mem_filter, List.take_add_one, hj]
            constructor
            · rintro (h | ⟨h, _⟩)
              · obtain ⟨m', a1, a2⟩ := (hmem o).mp h
                exact ⟨m', List.mem_append.mpr (.inl a1), a2⟩
              · exact ⟨m, List.mem_append.mpr (.inr (by simp)), h⟩
            · rintro ⟨m', a1, a2⟩
              rcases List.mem_append.mp a1 with a1 | a1
              · exact .inl ((hmem o).mpr ⟨m', a1, a2⟩)
              · have e : m' = m := by simpa using a1
                subst e
                by_cases c : o ∈ l
                · exact .inl c
                · exact .inr ⟨a2, by simp [c]⟩
      · rintro G4 σ' H' eG4 ⟨e4, G'', q, l, v, w, u, rfl, eH, g'', eG, gp'', hq, hll, hmem⟩
        rw [List.take_length] at hmem
        dsimp only
        refine s_appD (K := K) (r := rLn K (bitsN (imageN M fm))) g''.i (eH _ _ (g3.h _ _ hp)) gp'' (ra.mono eG) (ev_var rfl) (ed_is (EvN.d (K := K) (en_lcR n (fun o => decide (o ∈ l)) nI (ea_cons (ev_lenL (ed_var rfl ((rLL K _).mono g''.g hy)) lenM) ea_nil) (by omega) (fun _ => rfl) (fun o Gt ho et => et_in (ev_var rfl) (ed_var rfl ((rLn K _).mono et hq))) (fun o Gt ho _ et => Ev.d (ev_var rfl)))) ?_) ?_ fun ws' G10 H10 e10 k10 i10 n10 gp10 hp10 ra10 => ?_
        · rw [← bits_eq (imageN_lt wm fm)]
          refine congrArg (rLn K) (List.filter_congr fun o ho => ?_)
          rw [Bool.eq_iff_iff, decide_eq_true_iff, imageN_bit, hmem o]
          constructor
          · rintro ⟨m, hm, hb⟩
            exact ⟨m, by rw [wm.len]; exact bit_lt hlt (mem_bits.mp hm), mem_bits.mp hm, mem_bits.mp hb⟩
          · rintro ⟨m, _, hm, hb⟩
            exact ⟨m, mem_bits.mpr hm, mem_bits.mpr hb⟩
        · unfold prodN
          rw [List.length_map, List.length_map, List.length_map, List.length_take, wf.len]
          omega
        · refine ⟨G10, ws', _, _, _, _, _, rfl, fun a o z => k10 a o (eH a o (g3.h a o (e2 a o z))) (fun c => by subst c; rw [g2p] at z; cases z), g2p, ⟨g''.g.trans e10, fun a o z => k10 a o (g''.h a o z) (ne_of_none z hpf), i10, fun a o z y => n10 a o (g''.h a o z) (g''.n a o z y)⟩, gp10, hp10, ?_⟩
          rw [prodN_take hfm, List.map_append, List.map_append]
          exact ra10
    · rintro G2 σ' H' eG2 ⟨G', ws, u1, u2, u3, u4, u5, rfl, e2, g2p, g, gp, hp, ra⟩
      rw [List.length_map, List.take_length] at ra
      dsimp only
      refine s_retE (Ex.refl H') (ev_var rfl) fun H4 e4 => ?_
      exact k pf ws G' H4 (g.more e4) hpf gp (e4 _ _ hp) ra
theorem sc__law_pairs : FnScope ["_law_rows_here", "_law_found", "_law_told", "_law_out"] ["_law_rows_here"] (defScope s__law_pairs) := ⟨rfl, rfl, rfl, by decide +kernel, rfl, by decide +kernel, by decide +kernel⟩
theorem b__law_pairs (T : Tx K mg) : Binds K T.fd__law_pairs ["_law_rows_here"] [] := T.F__law_pairs.bindsN fun _ _ _ _ _ _ us hl => match us, hl with | [_], _ => rfl
def R_pairs (K : PySem.W.Frag) : List V → Hp → Rp → Prop := fun vs G r => ∃ (x : V) (m : List Nat) (n : Nat), vs = [x] ∧ (rLL K (m.map bitsN)).p x G ∧ Wf n m ∧ n ≤ 6 ∧ r = rL K ((pairsN m).map (rP K))
theorem ok__law_pairs (T : Tx K mg) : FnOk P w K mg base CX0 1 T.f__law_pairs T.fd__law_pairs ["_law_rows_here"] (spD (R_pairs K)) := by
  refine T.F__law_pairs.ok sc__law_pairs (fun vs H Q E h => ?_) (fun cdv A outer s H vs Q E hr h => ?_)
  · obtain ⟨G, rs, _, ⟨x, m, n, rfl, _⟩, _⟩ := h
    rfl
  · obtain ⟨G, rs, e, ⟨x, m, n, rfl, hx, wm, h6, rfl⟩, k⟩ := h
    refine ⟨_, PSs.nox (pss_cons (ps_set (i := 1) sc__law_pairs.nd rfl (Or.inl rfl) (pe_lst pa_nil))
      (pss_cons (ps_for PassesOwn.never rfl (pi_range1 (by rfl) T.m_range (pa_cons (pe_callB (call_lenK K) (by rfl) T.m_len PySem.boot_len (pa_cons (pv 0) pa_nil)) pa_nil)) (pg_name (i := 2) sc__law_pairs.nd rfl (Or.inr rfl)) (pss_one (ps_set (i := 1) sc__law_pairs.nd rfl (Or.inl rfl) (pe_op op_cat (pv 1) (pe_lc (own := [("_law_out", 3)]) (by rfl) sc__law_pairs.nd (pi_listK K (pe_ix (ix_listK K) (pv 0) (pv 2) (fun _ _ => rfl))) (blkOk_by (N := ["_law_rows_here", "_law_found", "_law_told", "_law_out"]) (sc := defScope s__law_pairs) (by decide +kernel)) (fun _ _ _ _ _ => (pg_name (i := 3) sc__law_pairs.nd rfl (Or.inl rfl))) (fun _ _ _ _ _ => pts_nil) (fun _ _ _ _ _ => (pe_tup (pa_cons (pv 2) (pa_cons (pv 3) pa_nil)))))))))
      (pss_one (ps_ret (pv 1))))), ?_⟩
    have lenM : ((m.map bitsN).map (rLn K)).length = m.length := by rw [List.length_map, List.length_map]
    have getM : ∀ i, i < m.length → ((m.map bitsN).map (rLn K))[i]? = some (rLn K (bitsN (m.getD i 0))) := fun i hi => by
      rw [List.map_map, List.getElem?_map, List.getD_eq_getElem?_getD, List.getElem?_eq_getElem hi]; rfl
    have hl := wm.len
    refine sq (s_setD e (EvN.d (K := K) (rs := ([] : List (Nat × Nat)).map (rP K)) (en_lst ead_nil (by show 0 ≤ 100000; decide))) fun q G1 H1 g1 hq => ?_)
    refine sq (Mu.s_forR m.length g1.i (ea_cons (ev_lenL (ed_var rfl ((rLL K _).mono g1.g hx)) lenM) ea_nil) (by omega) (fun i σ' H' => ∃ G' q u v, σ' = [some x, some q, u, v] ∧ Gr G H G' H' ∧ (rL K ((pairsTo m i).map (rP K))).p q G') (fun H2 e2 => ⟨G1, q, _, _, rfl, g1.more e2, hq⟩) ?_ ?_)
    · rintro i σ' H' hi ⟨G', q, u, v, rfl, g, hq⟩
      have hpl := pairsTo_len wm.get i
      have hin : i * n ≤ 36 := Nat.le_trans (Nat.mul_le_mul (show i ≤ 6 by omega) h6) (by decide)
      have hbl := bits_len (wm.get i)
      refine s_setD g.i (EvN.d (K := K) (en_cat (K := K) (ed_var rfl hq) (EvN.d (K := K) (en_lcL0 (bitsN (m.getD i 0)) nI (fun b => rP K (i, b)) (ed_ixL (ed_var rfl ((rLL K _).mono g.g hx)) (ev_var rfl) (getM i hi)) (by omega) (fun _ => rfl) fun b zz G5 hb e5 hzz => ed_tup (ead_cons (Ev.d (ev_var rfl)) (ead_cons (ed_var rfl hzz) ead_nil)) (by show 2 ≤ 100000; decide))) ?_)) fun q' G3 H3 g3 hq' => ?_
      · rw [List.length_map, List.length_map]
        omega
      · refine ⟨G3, q', _, _, rfl, g.trans g3, ?_⟩
        rw [pairsTo_succ, List.map_append, List.map_map]
        exact hq'
    · rintro σ' H' ⟨G', q, u, v, rfl, g, hq⟩
      dsimp only
      refine s_retD g.i (ed_var rfl hq) fun v G2 H2 g2 hv => k v G2 H2 (g.trans g2) hv
end
end MuL

namespace MuL
open PySem PySem.Spec PyProof.Rows L2 He Evl Mu
section
variable {P : Program} {w : World} {K : PySem.W.Frag} {mg : Str → Option Value} {base : Heap}
theorem sc_law : FnScope ["_law_script", "_law_box_here", "_law_n", "_law_first", "_law_whole", "_law_middle", "_law_one", "_law_every", "_law_best", "_law_kind", "_law_out", "_law_k", "_law_at", "_law_more", "_law_x", "_law_row", "_law_joint", "_law_due", "_law_pair"] ["_law_script"] (defScope s_law) := ⟨rfl, rfl, rfl, by decide +kernel, rfl, by decide +kernel, by decide +kernel⟩
theorem b_law (T : Tx K mg) : Binds K T.fd_law ["_law_script"] [] := T.F_law.bindsN fun _ _ _ _ _ _ us hl => match us, hl with | [_], _ => rfl
def sp_law (K : PySem.W.Frag) : Sp := fun vs H Q _ => ∃ (a : Addr) (ns : List Int), vs = [.ref a] ∧ SqL K H a (ns.map V.int) ∧ ns.length ≤ 63 ∧ ∀ H', Q (.bl true) H'

theorem ok_law (T : Tx K mg) : FnOk P w K mg base CX0 7 T.f_law T.fd_law ["_law_script"] (sp_law K) := by
  refine T.F_law.ok sc_law (fun vs H Q E h => ?_) (fun cdv A outer s H vs Q E hr h => ?_)
  · obtain ⟨a, ns, rfl, _⟩ := h
    rfl
  · obtain ⟨a, ns, rfl, hS, hl, k⟩ := h
    refine ⟨_, PSs.nox (pss_cons (ps_set (i := 1) sc_law.nd rfl (Or.inl rfl) (pe_call (ok__law_box T) (hr.mono (by decide)) (by rfl) T.g__law_box T.F__law_box.kp (b__law_box T) .nil pass0 (pa_cons (pv 0) pa_nil)))
      (pss_cons (ps_set (i := 2) sc_law.nd rfl (Or.inl rfl) (pe_op op_add pe_int (pe_call (ok__law_take T) (hr.mono (by decide)) (by rfl) T.g__law_take T.F__law_take.kp (b__law_take T) .nil pass0 (pa_cons (pv 1) (pa_cons pe_int pa_nil)))))
      (pss_cons (ps_set (i := 3) sc_law.nd rfl (Or.inl rfl) (pe_call (ok__law_rows T) (hr.mono (by decide)) (by rfl) T.g__law_rows T.F__law_rows.kp (b__law_rows T) .nil pass0 (pa_cons (pv 1) (pa_cons (pv 2) (pa_cons pe_int pa_nil)))))
      (pss_cons (ps_set (i := 4) sc_law.nd rfl (Or.inr rfl) (pe_call (ok__law_rows T) (hr.mono (by decide)) (by rfl) T.g__law_rows T.F__law_rows.kp (b__law_rows T) .nil pass0 (pa_cons (pv 1) (pa_cons (pv 2) (pa_cons pe_int pa_nil)))))
      (pss_cons (ps_set (i := 5) sc_law.nd rfl (Or.inr rfl) (pe_call (ok__law_rows T) (hr.mono (by decide)) (by rfl) T.g__law_rows T.F__law_rows.kp (b__law_rows T) .nil pass0 (pa_cons (pv 1) (pa_cons (pv 2) (pa_cons pe_int pa_nil)))))
      (pss_cons (ps_set (i := 6) sc_law.nd rfl (Or.inl rfl) (pe_make T.mk_Table (ok_Table___init__ T) (hr.mono (by decide)) (by rfl) T.g_Table (b_Table___init__ T) .nil pass0 (pa_cons (pv 3) pa_nil)))
      (pss_cons (ps_set (i := 7) sc_law.nd rfl (Or.inl rfl) (pe_make T.mk_Table (ok_Table___init__ T) (hr.mono (by decide)) (by rfl) T.g_Table (b_Table___init__ T) .nil pass0 (pa_cons (pv 4) pa_nil)))
      (pss_cons (ps_set (i := 8) sc_law.nd rfl (Or.inr rfl) (pe_meth0 (pe_op (op_own (by decide +kernel) T.d_Table___rshift__ T.sf_Table (ok_Table___rshift__ T) (hr.mono (by decide)) (b_Table___rshift__ T) pass0) (pv 6) (pv 7)) T.c_Table T.M_Table_rows (ok_Table_rows T) (hr.mono (by decide)) (b_Table_rows T) .nil pass0))
      (pss_cons (ps_set (i := 9) sc_law.nd rfl (Or.inl rfl) (pe_call (ok__law_take T) (hr.mono (by decide)) (by rfl) T.g__law_take T.F__law_take.kp (b__law_take T) .nil pass0 (pa_cons (pv 1) (pa_cons pe_int pa_nil))))
      (pss_cut (ps_if (pt_cmpR op_gt (pv 9) pe_int (nomark _)) (pss_one (ps_set (i := 5) sc_law.nd rfl (Or.inr rfl) (pe_lc (own := [("_law_k", 11)]) (by rfl) sc_law.nd (pi_range1 (by rfl) T.m_range (pa_cons (pv 2) pa_nil)) (blkOk_by (N := ["_law_script", "_law_box_here", "_law_n", "_law_first", "_law_whole", "_law_middle", "_law_one", "_law_every", "_law_best", "_law_kind", "_law_out", "_law_k", "_law_at", "_law_more", "_law_x", "_law_row", "_law_joint", "_law_due", "_law_pair"]) (sc := defScope s_law) (by decide +kernel)) (fun _ _ _ _ _ => (pg_name (i := 11) sc_law.nd rfl (Or.inr rfl))) (fun _ _ _ _ _ => pts_nil) (fun _ _ _ _ _ => (pe_lc (own := [("_law_out", 10)]) (by rfl) sc_law.nd (pi_listK K (pe_ix (ix_listK K) (pv 5) (pv 11) (fun _ _ => rfl))) (blkOk_re (blkOk_by (N := ["_law_script", "_law_box_here", "_law_n", "_law_first", "_law_whole", "_law_middle", "_law_one", "_law_every", "_law_best", "_law_kind", "_law_out", "_law_k", "_law_at", "_law_more", "_law_x", "_law_row", "_law_joint", "_law_due", "_law_pair"]) (sc := { kind := .function, names := [(".0", .local), ("_law_k", .cell), ("_law_best", .free), ("_law_middle", .free)], isGenerator := false, isCoroutine := false }) (by decide +kernel))) (fun _ _ _ _ _ => (pg_name (i := 10) sc_law.nd rfl (Or.inl rfl))) (fun _ _ _ _ _ => (pts_one (pt_cmpR (op_inK K) (pvB (sc := { kind := .function, names := [(".0", .local), ("_law_out", .local), ("_law_best", .free), ("_law_k", .free)], isGenerator := false, isCoroutine := false }) 10) (pe_ix (ix_listK K) (pvB (sc := { kind := .function, names := [(".0", .local), ("_law_out", .local), ("_law_best", .free), ("_law_k", .free)], isGenerator := false, isCoroutine := false }) 8) (pvB (sc := { kind := .function, names := [(".0", .local), ("_law_out", .local), ("_law_best", .free), ("_law_k", .free)], isGenerator := false, isCoroutine := false }) 11) (fun _ _ => rfl)) rfl))) (fun _ _ _ _ _ => (pvB (sc := { kind := .function, names := [(".0", .local), ("_law_out", .local), ("_law_best", .free), ("_law_k", .free)], isGenerator := false, isCoroutine := false }) 10))))))) pss_nil)
      (pss_cut (ps_if (pt_cmpR op_eq (pv 9) pe_int (nomark _)) (pss_cons (ps_set (i := 12) sc_law.nd rfl (Or.inr rfl) (pe_call (ok__law_take T) (hr.mono (by decide)) (by rfl) T.g__law_take T.F__law_take.kp (b__law_take T) .nil pass0 (pa_cons (pv 1) (pa_cons (pv 2) pa_nil))))
      (pss_cons (ps_set (i := 13) sc_law.nd rfl (Or.inr rfl) (pe_call (ok__law_take T) (hr.mono (by decide)) (by rfl) T.g__law_take T.F__law_take.kp (b__law_take T) .nil pass0 (pa_cons (pv 1) (pa_cons (pv 2) pa_nil))))
      (pss_one (ps_asg (pe_lc (own := [("_law_out", 10)]) (by rfl) sc_law.nd (pi_range1 (by rfl) T.m_range (pa_cons (pv 2) pa_nil)) (blkOk_by (N := ["_law_script", "_law_box_here", "_law_n", "_law_first", "_law_whole", "_law_middle", "_law_one", "_law_every", "_law_best", "_law_kind", "_law_out", "_law_k", "_law_at", "_law_more", "_law_x", "_law_row", "_law_joint", "_law_due", "_law_pair"]) (sc := defScope s_law) (by decide +kernel)) (fun _ _ _ _ _ => (pg_name (i := 10) sc_law.nd rfl (Or.inl rfl))) (fun _ _ _ _ _ => (pts_one (PW.pt (pw_or (pt_cmpR (op_inK K) (pv 10) (pe_ix (ix_listK K) (pv 8) (pv 12) (fun _ _ => rfl)) rfl) (pw_or1 (pt_cmpR op_eq (pv 10) (pv 13) (nomark _))))))) (fun _ _ _ _ _ => (pv 10))) (pg_sub (pv 5) (pv 12) set_list))))) pss_nil)
      (pss_cons (ps_set (i := 14) sc_law.nd rfl (Or.inl rfl) (pe_make T.mk_Table (ok_Table___init__ T) (hr.mono (by decide)) (by rfl) T.g_Table (b_Table___init__ T) .nil pass0 (pa_cons (pe_lc (own := [("_law_row", 15)]) (by rfl) sc_law.nd (pi_listK K (pv 5)) (blkOk_by (N := ["_law_script", "_law_box_here", "_law_n", "_law_first", "_law_whole", "_law_middle", "_law_one", "_law_every", "_law_best", "_law_kind", "_law_out", "_law_k", "_law_at", "_law_more", "_law_x", "_law_row", "_law_joint", "_law_due", "_law_pair"]) (sc := defScope s_law) (by decide +kernel)) (fun _ _ _ _ _ => (pg_name (i := 15) sc_law.nd rfl (Or.inl rfl))) (fun _ _ _ _ _ => pts_nil) (fun _ _ _ _ _ => (pe_callTy (call_listK K) (by rfl) T.m_list (by decide +kernel) (pa_cons (pv 15) pa_nil)))) pa_nil)))
      (pss_cons (ps_set (i := 16) sc_law.nd rfl (Or.inl rfl) (pe_call (ok__law_join T) (hr.mono (by decide)) (by rfl) T.g__law_join T.F__law_join.kp (b__law_join T) .nil pass0 (pa_cons (pv 3) (pa_cons (pv 5) pa_nil))))
      (pss_cons (ps_set (i := 17) sc_law.nd rfl (Or.inl rfl) (pe_cmpR op_eq (pe_callB (call_lenK K) (by rfl) T.m_len PySem.boot_len (pa_cons (pe_lc (own := [("_law_pair", 18)]) (by rfl) sc_law.nd (pi_listK K (pe_call (ok__law_pairs T) (hr.mono (by decide)) (by rfl) T.g__law_pairs T.F__law_pairs.kp (b__law_pairs T) .nil pass0 (pa_cons (pv 16) pa_nil))) (blkOk_by (N := ["_law_script", "_law_box_here", "_law_n", "_law_first", "_law_whole", "_law_middle", "_law_one", "_law_every", "_law_best", "_law_kind", "_law_out", "_law_k", "_law_at", "_law_more", "_law_x", "_law_row", "_law_joint", "_law_due", "_law_pair"]) (sc := defScope s_law) (by decide +kernel)) (fun _ _ _ _ _ => (pg_name (i := 18) sc_law.nd rfl (Or.inl rfl))) (fun _ _ _ _ _ => (pts_one (pt_cmpR (op_notInDK K hr.u65) (pv 18) (pe_call (ok__law_pairs T) (hr.mono (by decide)) (by rfl) T.g__law_pairs T.F__law_pairs.kp (b__law_pairs T) .nil pass0 (pa_cons (pv 4) pa_nil)) rfl))) (fun _ _ _ _ _ => (pv 18))) pa_nil)) pe_int (nomark _)))
      (pss_cons (ps_if (PW.pt (pw_or (pt_not (pt_val (pe_call (ok__law_is T) (hr.mono (by decide)) (by rfl) T.g__law_is T.F__law_is.kp (b__law_is T) .nil pass0 (pa_cons (pe_cmpR (cmp_own (by decide +kernel) (fun _ _ => rfl) T.d_Table___le__ (ok_Table___le__ T) (hr.mono (by decide)) (b_Table___le__ T) pass0) (pe_op (op_own (by decide +kernel) T.d_Table___mul__ T.sf_Table (ok_Table___mul__ T) (hr.mono (by decide)) (b_Table___mul__ T) pass0) (pv 6) (pv 14)) (pv 7) (nomark _)) (pa_cons (pv 17) pa_nil))))) (pw_or1 (pt_not (pt_val (pe_call (ok__law_is T) (hr.mono (by decide)) (by rfl) T.g__law_is T.F__law_is.kp (b__law_is T) .nil pass0 (pa_cons (pe_cmpR (cmp_own (by decide +kernel) (fun _ _ => rfl) T.d_Table___le__ (ok_Table___le__ T) (hr.mono (by decide)) (b_Table___le__ T) pass0) (pv 14) (pe_op (op_own (by decide +kernel) T.d_Table___rshift__ T.sf_Table (ok_Table___rshift__ T) (hr.mono (by decide)) (b_Table___rshift__ T) pass0) (pv 6) (pv 7)) (nomark _)) (pa_cons (pv 17) pa_nil)))))))) (pss_one (ps_ret pe_bl)) pss_nil)
      (pss_cons (ps_if (pt_not (pt_val (pe_call (ok__law_is T) (hr.mono (by decide)) (by rfl) T.g__law_is T.F__law_is.kp (b__law_is T) .nil pass0 (pa_cons (pe_cmpR (cmp_own (by decide +kernel) (fun _ _ => rfl) T.d_Table___le__ (ok_Table___le__ T) (hr.mono (by decide)) (b_Table___le__ T) pass0) (pv 6) (pe_op (op_own (by decide +kernel) T.d_Table___lshift__ T.sf_Table (ok_Table___lshift__ T) (hr.mono (by decide)) (b_Table___lshift__ T) pass0) (pv 7) (pv 14)) (nomark _)) (pa_cons (pv 17) pa_nil))))) (pss_one (ps_ret pe_bl)) pss_nil)
      (pss_one (ps_ret (pe_and (pe_cmpR (cmp_own (by decide +kernel) (fun _ _ => rfl) T.d_Table___le__ (ok_Table___le__ T) (hr.mono (by decide)) (b_Table___le__ T) pass0) (pe_op (op_own (by decide +kernel) T.d_Table___mul__ T.sf_Table (ok_Table___mul__ T) (hr.mono (by decide)) (b_Table___mul__ T) pass0) (pv 6) (pe_op (op_own (by decide +kernel) T.d_Table___rshift__ T.sf_Table (ok_Table___rshift__ T) (hr.mono (by decide)) (b_Table___rshift__ T) pass0) (pv 6) (pv 7))) (pv 7) (nomark _)) (pe_one (pe_cmpR (cmp_own (by decide +kernel) (fun _ _ => rfl) T.d_Table___le__ (ok_Table___le__ T) (hr.mono (by decide)) (b_Table___le__ T) pass0) (pe_op (op_own (by decide +kernel) T.d_Table___mul__ T.sf_Table (ok_Table___mul__ T) (hr.mono (by decide)) (b_Table___mul__ T) pass0) (pe_op (op_own (by decide +kernel) T.d_Table___lshift__ T.sf_Table (ok_Table___lshift__ T) (hr.mono (by decide)) (b_Table___lshift__ T) pass0) (pv 7) (pv 14)) (pv 14)) (pv 7) (nomark _)))))))))))))))))))))), ?_⟩
    try dsimp only
    refine sq (s_box rfl hS hl fun b G1 H1 e01 e1 hb gb hbox => ?_)
    try dsimp only
    refine sq (s_setB e1 gb hbox (eb_opN ev_c (eb_take (m := 5) rfl ev_c (by decide) (by decide)) (fun d => .int (1 + (d : Int))) fun d _ H Q q => ⟨_, _, rfl, rfl, q⟩) fun r v G2 H2 hP g2 hb2 hv => ?_)
    obtain ⟨d, hd, rfl⟩ := hP
    obtain rfl : v = V.int (1 + (d : Int)) := hv
    obtain ⟨n, hn⟩ : ∃ n, n = 1 + d := ⟨_, rfl⟩
    rw [show (1 : Int) + (d : Int) = (n : Int) by omega]
    have h1 : 1 ≤ n := by omega
    have h6 : n ≤ 6 := by omega
    have gb2 := g2.out gb hbox.at_
    try dsimp only
    refine sq (s_setB g2.i gb2 hb2 (EvBN.d (ebn_call (P := fun rs => ∃ m, Wf n m ∧ (∀ x ∈ m, 0 ≤ x) ∧ rs = (m.map bitsN).map (rLn K)) rfl (ead_cons (Ev.d (ev_var rfl)) (ead_cons (Ev.d ev_c) ead_nil)) fun ws G3 e3 ra3 => ?_)) fun r v G3 H3 hP g3 hb3 hv => ?_)
    · obtain ⟨x, y, rfl, hx, hy⟩ := ra2 ra3
      obtain rfl : x = V.int (n : Int) := hx
      obtain rfl : y = V.int 0 := hy
      exact ⟨n, 0, rfl, h1, h6, by omega, rfl⟩
    obtain ⟨rs, ⟨F, wf, _, rfl⟩, rfl⟩ := hP
    have hF : (rLL K (F.map bitsN)).p v G3 := hv
    clear hv
    have gb3 := g3.out gb2 hb2.at_
    try dsimp only
    refine sq (s_setB g3.i gb3 hb3 (EvBN.d (ebn_call (P := fun rs => ∃ m, Wf n m ∧ (∀ x ∈ m, 0 ≤ x) ∧ rs = (m.map bitsN).map (rLn K)) rfl (ead_cons (Ev.d (ev_var rfl)) (ead_cons (Ev.d ev_c) ead_nil)) fun ws G4 e4 ra4 => ?_)) fun r v2 G4 H4 hP g4 hb4 hv => ?_)
    · obtain ⟨x, y, rfl, hx, hy⟩ := ra2 ra4
      obtain rfl : x = V.int (n : Int) := hx
      obtain rfl : y = V.int 0 := hy
      exact ⟨n, 0, rfl, h1, h6, by omega, rfl⟩
    obtain ⟨rs, ⟨W, ww, _, rfl⟩, rfl⟩ := hP
    have hW : (rLL K (W.map bitsN)).p v2 G4 := hv
    clear hv
    have gb4 := g4.out gb3 hb3.at_
    try dsimp only
    refine sq (s_setB g4.i gb4 hb4 (EvBN.d (ebn_call (P := fun rs => ∃ m, Wf n m ∧ (∀ x ∈ m, 0 ≤ x) ∧ rs = (m.map bitsN).map (rLn K)) rfl (ead_cons (Ev.d (ev_var rfl)) (ead_cons (Ev.d ev_c) ead_nil)) fun ws G5 e5 ra5 => ?_)) fun r v3 G5 H5 hP g5 hb5 hv => ?_)
    · obtain ⟨x, y, rfl, hx, hy⟩ := ra2 ra5
      obtain rfl : x = V.int (n : Int) := hx
      obtain rfl : y = V.int 0 := hy
      exact ⟨n, 0, rfl, h1, h6, by omega, rfl⟩
    obtain ⟨rs, ⟨M0, wm0, _, rfl⟩, rfl⟩ := hP
    have hM0 : (rLL K (M0.map bitsN)).p v3 G5 := hv
    clear hv
    have gb5 := g5.out gb4 hb4.at_

    replace hF := (rLL K (F.map bitsN)).mono (g4.g.trans g5.g) hF
    replace hW := (rLL K (W.map bitsN)).mono g5.g hW
    try dsimp only
    refine sq (s_setD g5.i (ed_tabRows (ed_var rfl hF) wf h1 h6) fun t1 G6 H6 g6 ht1 => ?_)
    try dsimp only
    refine sq (s_setD g6.i (ed_tabRows (ed_var rfl ((rLL K _).mono g6.g hW)) ww h1 h6) fun t2 G7 H7 g7 ht2 => ?_)
    have wb := behindN_wf wf ww
    have lt64 : ∀ {m : List Nat}, Wf n m → ∀ q ∈ m, q < 2 ^ 64 := fun w q hq => Nat.lt_of_lt_of_le (w.lt q hq) (Nat.pow_le_pow_right (by decide) (by omega))
    try dsimp only
    refine sq (s_setD g7.i (EvN.d (K := K) (en_meth (C := T.C_Table) (ed_own2 (ed_var rfl ((rTab K _ F).mono g7.g ht1)) (ed_var rfl ht2) fun x y Gx ex hx hy => SpD.of ⟨x, y, F, W, n, rfl, hx, hy, wf, ww, h1, h6, rfl⟩) (by decide +kernel) fun v G2 e2 hv => SpN.of ⟨v, behindN F W, rfl, hv, by rw [wb.len]; omega, lt64 wb, rfl⟩)) fun vb G8 H8 g8 hB => ?_)
    have gb6 := g6.outB gb5 hb5
    have hb6 := hb5.mono g6.g g6.h
    have gb7 := g7.outB gb6 hb6
    have hb7 := hb6.mono g7.g g7.h
    have gb8 := g8.outB gb7 hb7
    have hb8 := hb7.mono g8.g g8.h
    try dsimp only
    refine sq (s_setB g8.i gb8 hb8 (eb_take (m := 3) rfl ev_c (by decide) (by decide)) fun r vk G9 H9 hP g9 hb9 hvk => ?_)
    obtain ⟨kd, hkd, rfl⟩ := hP
    obtain rfl : vk = V.int (kd : Int) := hvk
    have gb9 := g9.out gb8 hb8.at_
    have e59 := g6.g.trans (g7.g.trans (g8.g.trans g9.g))
    replace hF := (rLL K (F.map bitsN)).mono e59 hF
    replace hW := (rLL K (W.map bitsN)).mono e59 hW
    replace hM0 := (rLL K (M0.map bitsN)).mono e59 hM0
    replace ht1 := (rTab K T.C_Table F).mono (g7.g.trans (g8.g.trans g9.g)) ht1
    replace ht2 := (rTab K T.C_Table W).mono (g8.g.trans g9.g) ht2
    replace hB : (rLL K ((behindN F W).map bitsN)).p vb G9 := (rLL K ((behindN F W).map bitsN)).mono g9.g hB
    have iG := g9.i
    clear g9 g8 g7 g6 g5 g4 g3 g2 hb8 hb7 hb6 hb5 hb4 hb3 hb2 hbox gb8 gb7 gb6 gb5 gb4 gb3 gb2 e1 e01 e59
    have getX : ∀ {m : List Nat}, Wf n m → ∀ i, i < n → ((m.map bitsN).map (rLn K))[i]? = some (rLn K (bitsN (m.getD i 0))) := fun w i hi => by
      rw [List.map_map, List.getElem?_map, List.getD_eq_getElem?_getD, List.getElem?_eq_getElem (by rw [w.len]; exact hi)]; rfl
    -- the middle
    refine ⟨fun σ' H' => ∃ G' v' u10 u11 u12 u13 u14 u15 u16 u17 u18, σ' = [some (.ref a), some (.ref b), some (.int (n : Int)), some v, some v2, some v', some t1, some t2, some vb, some (.int (kd : Int)), u10, u11, u12, u13, u14, u15, u16, u17, u18] ∧ Ex G9 G' ∧ Ex G' H' ∧ G' b = none ∧ Box K G' H' b ∧ ∃ M, Wf n M ∧ ((kd < 2 ∧ (rLL K (M.map bitsN)).p v' G') ∨ (kd = 2 ∧ ∃ p ws, v' = .ref p ∧ p ≠ b ∧ G' p = none ∧ H' p = some (.lst ws) ∧ RA G' ws ((M.map bitsN).map (rLn K)))), ?_, ?_⟩
    · refine s_ifE (b := decide ((0 : Int) < (kd : Int))) iG (et_cmp (ev_var rfl) ev_c) (fun hb H10 e10 => ?_) (fun hb H10 e10 => ?_)
      · obtain ⟨M1, wm1, hM1⟩ := rows_tab n fun k o => bitOf M0 k o && bitOf (behindN F W) k o
        refine s_setN (rs := (M1.map bitsN).map (rLn K)) (iG.trans e10) (en_is (en_lcR0 n (fun k => rLn K ((bitsN (M0.getD k 0)).filter fun o => decide (o ∈ bitsN ((behindN F W).getD k 0)))) (ea_cons (ev_var rfl) ea_nil) (by omega) (fun _ => rfl) fun k Gk hk ek => EvN.d (K := K) (en_lcL (bitsN (M0.getD k 0)) nI (fun o => decide (o ∈ bitsN ((behindN F W).getD k 0))) nI (ed_ixL (ed_var rfl ((rLL K _).mono ek hM0)) (ev_var rfl) (getX wm0 k hk)) (by have := bits_len (wm0.get k); omega) (fun _ => rfl) (fun o zz G5 ho e5 hzz => ?_) (fun o zz G5 ho _ e5 hzz => ed_var rfl hzz))) ?_) fun p ws G11 H11 g11 hp gp h11 ra => ?_
        · obtain rfl : zz = V.int (o : Int) := hzz
          exact et_in (ev_var rfl) (ed_ixL (ed_var rfl ((rLL K _).mono (ek.trans e5) hB)) (ev_var rfl) (getX wb k hk))
        · rw [hM1, List.map_map]
          refine List.map_congr_left fun k hk => congrArg (rLn K) ?_
          rw [← bits_eq (wm0.get k), List.filter_filter]
          refine List.filter_congr fun o ho => ?_
          rw [Bool.eq_iff_iff]
          simp only [Bool.and_eq_true, decide_eq_true_eq, mem_bits, bitOf]
          exact And.comm
        · have gb11 : G11 b = none := (g11.outB gb9 (hb9.mono (Ex.refl _) e10))
          have hpb : p ≠ b := fun z => by
            subst z
            obtain ⟨o, z2⟩ := (hb9.mono (Ex.refl G9) e10).at_
            rw [z2] at hp; cases hp
          have bx := hb9.mono g11.g (e10.trans g11.h)
          by_cases h2 : kd = 2
          · exact ⟨G11, _, _, _, _, _, _, _, _, _, _, rfl, g11.g, g11.i, gb11, bx, M1, wm1, .inr ⟨h2, p, ws, rfl, hpb, gp, h11, ra⟩⟩
          · exact ⟨upd G11 p (.lst ws), _, _, _, _, _, _, _, _, _, _, rfl, g11.g.trans (Ex.new gp), ex_add g11.i h11, by rw [upd_ne (Ne.symm hpb)]; exact gb11, bx.mono (Ex.new gp) (Ex.refl _), M1, wm1, .inl ⟨by omega, p, ws, rfl, upd_same, ra.mono (Ex.new gp)⟩⟩
      · have hk0 : kd = 0 := by have := of_decide_eq_false hb; omega
        exact nxt ⟨G9, _, _, _, _, _, _, _, _, _, _, rfl, Ex.refl _, iG.trans e10, gb9, hb9.mono (Ex.refl _) e10, M0, wm0, .inl ⟨by omega, hM0⟩⟩
    rintro σ' H' ⟨G', v', u10, u11, u12, u13, u14, u15, u16, u17, u18, rfl, eG, i', gb', bx', M, wm, hM⟩
    refine ⟨fun σ' H' => ∃ G' v' u10 u11 u12 u13 u14 u15 u16 u17 u18, σ' = [some (.ref a), some (.ref b), some (.int (n : Int)), some v, some v2, some v', some t1, some t2, some vb, some (.int (kd : Int)), u10, u11, u12, u13, u14, u15, u16, u17, u18] ∧ Ex G9 G' ∧ Ex G' H' ∧ ∃ M, Wf n M ∧ (rLL K (M.map bitsN)).p v' G', ?_, ?_⟩
    · refine s_ifE (b := decide (V.int (kd : Int) = V.int 2)) i' (et_eq (ev_var rfl) ev_c rfl) (fun hb H10 e10 => ?_) (fun hb H10 e10 => ?_)
      · have hk2 : kd = 2 := by
          have := of_decide_eq_true hb
          injection this with this
          omega
        rcases hM with ⟨hlt, _⟩ | ⟨_, p, ws, rfl, hpb, gp, hp, ra⟩
        · omega
        try dsimp only
        refine sq (s_setB (i'.trans e10) gb' (bx'.mono (Ex.refl _) e10) (EvBI.eb (ebi_take (m := n) rfl (ev_var rfl) (by omega) (by omega))) fun r va G11 H11 hP g11 hb11 hva => ?_)
        obtain ⟨_, ⟨at_, hat, rfl⟩, rfl⟩ := hP
        obtain rfl : va = V.int (at_ : Int) := hva
        have gb11 := g11.out gb' (bx'.mono (Ex.refl G') e10).at_
        try dsimp only
        refine sq (s_setB g11.i gb11 hb11 (EvBI.eb (ebi_take (m := n) rfl (ev_var rfl) (by omega) (by omega))) fun r vm G12 H12 hP g12 hb12 hvm => ?_)
        obtain ⟨_, ⟨mo, hmo, rfl⟩, rfl⟩ := hP
        obtain rfl : vm = V.int (mo : Int) := hvm
        have hp11 := g11.h _ _ (e10 _ _ hp) hpb
        have gp11 := g11.n _ _ (e10 _ _ hp) gp
        have hp12 := g12.h _ _ hp11 hpb
        have gp12 := g12.n _ _ hp11 gp11
        have e912 := eG.trans (g11.g.trans g12.g)
        obtain ⟨f, hf⟩ : ∃ f : Nat → Bool, f = fun o => decide (o ∈ bitsN ((behindN F W).getD at_ 0)) || decide (V.int (o : Int) = V.int (mo : Int)) := ⟨_, rfl⟩
        refine s_setNI (K := K) (j := at_) (l := (List.range n).filter f) g12.i hp12 gp12 (ra.mono (g11.g.trans g12.g)) (en_lcR n f nI (ea_cons (ev_var rfl) ea_nil) (by omega) (fun _ => rfl) (fun o Gt ho et => et_is (et_or (et_in (ev_var rfl) (ed_ixL (ed_var rfl ((rLL K _).mono ((e912.trans (Ex.new gp12)).trans et) hB)) (ev_var rfl) (getX wb at_ hat))) fun _ => et_eq (ev_var rfl) (ev_var rfl) rfl) (by rw [hf])) (fun o Gt ho _ et => Ev.d (ev_var rfl))) (ev_var rfl) (ev_var rfl) (by rw [List.length_map, List.length_map, wm.len]; exact hat) fun ws' G13 H13 e13 k13 i13 n13 gp13 hp13 ra13 => ?_
        refine ⟨upd G13 p (.lst ws'), _, _, _, _, _, _, _, _, _, _, rfl, (e912.trans e13).trans (Ex.new gp13), ex_add i13 hp13, M.set at_ (accTo f n), set_wf wm (accTo_lt f n) at_, p, ws', rfl, upd_same, ?_⟩
        rw [List.map_set, bits_acc, List.map_set]
        exact ra13.mono (Ex.new gp13)
      · have hk2 : kd ≠ 2 := by
          have := of_decide_eq_false hb
          intro z; apply this; rw [z]; rfl
        rcases hM with ⟨_, hM⟩ | ⟨z, _⟩
        · exact nxt ⟨G', _, _, _, _, _, _, _, _, _, _, rfl, eG, i'.trans e10, M, wm, hM⟩
        · exact absurd z hk2
    clear hM wm M i' gb' bx' eG u10 u11 u12 u13 u14 u15 u16 u17 u18 v' G' H' gb9 hb9
    rintro σ' H' ⟨G', v', u10, u11, u12, u13, u14, u15, u16, u17, u18, rfl, eG, i', M, wm, hM⟩
    replace hF := (rLL K (F.map bitsN)).mono eG hF
    replace hW := (rLL K (W.map bitsN)).mono eG hW
    replace ht1 := (rTab K T.C_Table F).mono eG ht1
    replace ht2 := (rTab K T.C_Table W).mono eG ht2
    clear hM0 hB iG eG
    have lenM : (M.map bitsN).length ≤ 1000 := by rw [List.length_map, wm.len]; omega
    try dsimp only
    refine sq (s_setD i' (ed_tabRows (ed_copy (ed_var rfl hM) lenM (fun _ => rfl) (fun _ => rfl)) wm h1 h6) fun t3 G2 H2 g2 ht3 => ?_)
    try dsimp only
    refine sq (s_setD (r := rLL K ((prodN F M).map bitsN)) g2.i (EvN.d (K := K) (en_call (ss := ((prodN F M).map bitsN).map (rLn K)) (ead_cons (ed_var rfl ((rLL K _).mono g2.g hF)) (ead_cons (ed_var rfl ((rLL K _).mono g2.g hM)) ead_nil)) fun vs Gy ey ra => ?_)) fun vj G3 H3 g3 hJ => ?_)
    · obtain ⟨x, y, rfl, hx, hy⟩ := ra2 ra
      exact SpN.of ⟨x, y, F, M, n, rfl, hx, hy, wf, wm, h6, rfl⟩
    have wj := prodN_wf wf wm
    have e23 := g2.g.trans g3.g
    replace hW := (rLL K (W.map bitsN)).mono e23 hW
    replace ht1 := (rTab K T.C_Table F).mono e23 ht1
    replace ht2 := (rTab K T.C_Table W).mono e23 ht2
    replace ht3 := (rTab K T.C_Table M).mono g3.g ht3
    have iG := g3.i
    clear g2 g3 e23 i'
    have prs : ∀ (σ : L2.St) (te : TE) (m : List Nat) (G : Hp), Wf n m → EvD te σ G (rLL K (m.map bitsN)) → EvD (tCall (spD (R_pairs K)) [] E0 (tCons te tNil)) σ G (rL K ((pairsN m).map (rP K))) := fun σ te m G w hte => ed_call (ead_cons hte ead_nil) fun vs G2 e2 ra => by
      obtain ⟨x, rfl, hx⟩ := ra1 ra
      exact SpD.of ⟨x, m, n, rfl, hx, w, h6, rfl⟩
    have hpn : (pairsN (prodN F M)).length ≤ 40000 := by
      have z := pairsTo_len wj.get (prodN F M).length
      have z2 : (prodN F M).length * n ≤ 6 * 6 := Nat.mul_le_mul (by rw [wj.len]; exact h6) h6
      show (pairsTo (prodN F M) (prodN F M).length).length ≤ 40000
      omega
    try dsimp only
    refine sq (Mu.s_set (v := .bl (insideN (prodN F M) W)) iG (Ev.is (ev_op (ev_lenL (K := K) (EvN.d (en_lcL (pairsN (prodN F M)) (rP K) (fun p => !decide (p ∈ pairsN W)) (rP K) (prs _ _ _ _ wj (ed_var rfl hJ)) hpn (fun _ => rfl) (fun p zz G5 ho e5 hzz => et_notInP (ed_var rfl hzz) (prs _ _ _ _ ww (ed_var rfl ((rLL K _).mono e5 hW)))) (fun p zz G5 ho _ e5 hzz => ed_var rfl hzz))) rfl) ev_c (rv_eq rfl)) ?_) fun H4 e4 => ?_)
    · rw [← due_inside wj ww, List.length_map]
      refine congrArg V.bl ?_
      rw [Bool.eq_iff_iff, decide_eq_true_iff, decide_eq_true_iff]
      constructor
      · intro h; injection h with h; omega
      · intro h; rw [h]; rfl
    have iG4 := iG.trans e4
    have isc : ∀ (σ : L2.St) (te tf : TE) (b : Bool) (G : Hp), EvD te σ G (rB b) → Ev tf σ G (.bl b) → Ev (tCall (spD R_is) [] E0 (tCons te (tCons tf tNil))) σ G (.bl true) := fun σ te tf b G hte htf => ev_callD (v := .bl true) (ead_cons hte (ead_cons (Ev.d htf) ead_nil)) fun vs G2 e2 ra => by
      obtain ⟨x, y, rfl, hx, hy⟩ := ra2 ra
      obtain rfl : x = V.bl b := hx
      obtain rfl : y = V.bl b := hy
      exact SpD.of ⟨b, b, rfl, by simp [rB]⟩
    have le : ∀ (σ : L2.St) (te tf : TE) (f w : List Nat) (G : Hp), Wf n f → Wf n w → EvD te σ G (rTab K T.C_Table f) → EvD tf σ G (rTab K T.C_Table w) → EvD (tOp (rOwn2 T.C_Table (spD (R_Table_le K T.C_Table)) E0) te tf) σ G (rB (insideN f w)) := fun σ te tf f w G wf ww h h' => ed_own2 h h' fun x y Gx ex hx hy => SpD.of ⟨x, y, f, w, n, rfl, hx, hy, wf, ww, h1, h6, rfl⟩
    have mul : ∀ (σ : L2.St) (te tf : TE) (f w : List Nat) (G : Hp), Wf n f → Wf n w → EvD te σ G (rTab K T.C_Table f) → EvD tf σ G (rTab K T.C_Table w) → EvD (tOp (rOwn2 T.C_Table (spD (R_Table_mul K T.C_Table)) E0) te tf) σ G (rTab K T.C_Table (prodN f w)) := fun σ te tf f w G wf ww h h' => ed_own2 h h' fun x y Gx ex hx hy => SpD.of ⟨x, y, f, w, n, rfl, hx, hy, wf, ww, h1, h6, rfl⟩
    have beh : ∀ (σ : L2.St) (te tf : TE) (f w : List Nat) (G : Hp), Wf n f → Wf n w → EvD te σ G (rTab K T.C_Table f) → EvD tf σ G (rTab K T.C_Table w) → EvD (tOp (rOwn2 T.C_Table (spD (R_Table_rshift K T.C_Table)) E0) te tf) σ G (rTab K T.C_Table (behindN f w)) := fun σ te tf f w G wf ww h h' => ed_own2 h h' fun x y Gx ex hx hy => SpD.of ⟨x, y, f, w, n, rfl, hx, hy, wf, ww, h1, h6, rfl⟩
    have ahe : ∀ (σ : L2.St) (te tf : TE) (f w : List Nat) (G : Hp), Wf n f → Wf n w → EvD te σ G (rTab K T.C_Table f) → EvD tf σ G (rTab K T.C_Table w) → EvD (tOp (rOwn2 T.C_Table (spD (R_Table_lshift K T.C_Table)) E0) te tf) σ G (rTab K T.C_Table (aheadN f w)) := fun σ te tf f w G wf ww h h' => ed_own2 h h' fun x y Gx ex hx hy => SpD.of ⟨x, y, f, w, n, rfl, hx, hy, wf, ww, h1, h6, rfl⟩
    have wa := aheadN_wf ww wm
    try dsimp only
    refine sq (s_ifE (b := false) iG4 (et_is (et_or (et_not (et_B (isc _ _ _ (insideN (prodN F M) W) _ (le _ _ _ _ _ _ wj ww (mul _ _ _ _ _ _ wf wm (ed_var rfl ht1) (ed_var rfl ht3)) (ed_var rfl ht2)) (ev_var rfl)))) fun _ => et_not (et_B (isc _ _ _ (insideN (prodN F M) W) _ (ed_is (le _ _ _ _ _ _ wm wb (ed_var rfl ht3) (beh _ _ _ _ _ _ wf ww (ed_var rfl ht1) (ed_var rfl ht2))) (by rw [inside_behind wf wm ww])) (ev_var rfl)))) (by simp)) (fun hb H5 e5 => ?_) (fun hb H5 e5 => ?_))
    · cases hb
    refine nxt ?_
    dsimp only
    try dsimp only
    refine sq (s_ifE (b := false) (iG4.trans e5) (et_is (et_not (et_B (isc _ _ _ (insideN (prodN F M) W) _ (ed_is (le _ _ _ _ _ _ wf wa (ed_var rfl ht1) (ahe _ _ _ _ _ _ ww wm (ed_var rfl ht2) (ed_var rfl ht3))) (by rw [inside_ahead wf wm ww])) (ev_var rfl)))) (by simp)) (fun hb H6 e6 => ?_) (fun hb H6 e6 => ?_))
    · cases hb
    refine nxt ?_
    dsimp only
    have q1 : insideN (prodN F (behindN F W)) W = true := by rw [inside_behind wf wb ww]; exact inside_self wb
    have q2 : insideN (prodN (aheadN W M) M) W = true := by rw [inside_ahead wa wm ww]; exact inside_self wa
    refine s_retE (v := .bl (true && true)) ((iG4.trans e5).trans e6) (ev_andV (EvD.ev (ed_is (le _ _ _ _ _ _ (prodN_wf wf wb) ww (mul _ _ _ _ _ _ wf wb (ed_var rfl ht1) (beh _ _ _ _ _ _ wf ww (ed_var rfl ht1) (ed_var rfl ht2))) (ed_var rfl ht2)) (by rw [q1]))) fun _ => EvD.ev (ed_is (le _ _ _ _ _ _ (prodN_wf wa wm) ww (mul _ _ _ _ _ _ wa wm (ahe _ _ _ _ _ _ ww wm (ed_var rfl ht2) (ed_var rfl ht3)) (ed_var rfl ht3)) (ed_var rfl ht2)) (by rw [q2]))) fun H7 e7 => k H7
end
end MuL

set_option maxHeartbeats 0
namespace MuL
open PySem PySem.Spec PyProof.Rows L2 He Evl Mu
def loose0 : List Str := ["_wall", "MurmurError", "BadSize", "BadTable", "UnknownWord", "SizeMismatch", "bits", "mask_of", "masks_of", "image", "product", "converse", "greatest_behind", "greatest_ahead", "GREATEST_SIZE", "check_size", "check_word", "check_words", "check_sizes", "written", "table_of_masks", "Table", "product_inside", "_law_box", "_law_take", "_law_words", "_law_rows", "_law_join", "_law_pairs", "_law_is"]
def loose : List Str := loose0
abbrev R : PySem.W.OpenRow := PySem.W.OpenLaw.row PySem.Challenge.rw_murmurline_k10_whole_fits_behind
abbrev hk : PySem.W.Hook := Mu.hookM 5 fa ex fn
def ob (s : PySem.W.SharedT) : He.AlD := Mu.obsMG 5 fa ex fn (HandSHeadRun.getT s)
theorem ob_eq (s : PySem.W.SharedT) : ob s = hk.obs s.abs := Mu.obsMG_eq (HandSHeadRun.getT_eq s)
theorem run (w : World) : HandSHeadRun.RunEq R (PySem.W.view R.prog [34]) hk ob 40000 loose w := by
  intro os
  kernel_rfl
end MuL
open PySem PySem.W PySem.Calls PyProof.Rows
set_option maxRecDepth 100000 in
set_option maxHeartbeats 0 in
theorem PySem.Challenge.cw_murmurline_k10_whole_fits_behind_holds : PySem.Challenge.rw_murmurline_k10_whole_fits_behind.Holds := by
  w_on; o_law
  refine HandSHeadRun.head_any (r := OpenLaw.row PySem.Challenge.rw_murmurline_k10_whole_fits_behind) (q := view (OpenLaw.row PySem.Challenge.rw_murmurline_k10_whole_fits_behind).prog [34]) (H := MuL.hk) (ob := MuL.ob) (M := 40000) (loose := MuL.loose) (d := HandSHeadRun.topDef (OpenLaw.row PySem.Challenge.rw_murmurline_k10_whole_fits_behind).prog 34) (kwd := []) MuL.ob_eq
    (by kernel_rfl) (fun s => by kernel_rfl) MuL.run (by kernel_rfl) (by kernel_rfl) (by kernel_rfl) (by rfl) (by first | assumption | decide +kernel) (by decide +kernel) ⟨rfl, rfl, rfl, rfl, rfl, by decide +kernel⟩ ?hw ?hc
  case hw => w_witness2
  case hc =>
    refine L2.walk_ofE (l := PySem.Challenge.rw_murmurline_k10_whole_fits_behind) (n := 63) (k := 7) (x := "_law_script") (CX := L2.CX0) rfl (by decide) (by kernel_rfl) ⟨rfl, by decide, by decide⟩ ?F (fun _ _ _ _ z => z)
    intro w mg fa h Y G hmg0
    obtain ⟨K, KX, c⟩ := Y
    have hmg : mg ("law" : PySem.Str) = some (.ref fa) := by
      have e : (HandSHeadRun.topDef (OpenLaw.row PySem.Challenge.rw_murmurline_k10_whole_fits_behind).prog 34).name = ("law" : PySem.Str) := by kernel_rfl
      rw [← e]
      exact hmg0
    obtain ⟨T, hT⟩ := MuL.mkTx KX G c
    have e := hmg.symm.trans T.g_law
    cases e
    exact ⟨K, T.fd_law, MuL.sp_law K, KX, fun s v => T.F_law.bindsA (ps := ["_law_script"]) (fun _ _ _ _ _ _ us hl => match us, hl with | [_], _ => rfl) s [v] rfl, fun H a ns hl _ hS => ⟨a, ns, rfl, hS, hl, fun _ => rfl⟩, fun base _ _ => MuL.ok_law T⟩
#print axioms PySem.Challenge.cw_murmurline_k10_whole_fits_behind_holds
