import PyProof.Rows.All
import Wide.All
import OpenK.AllK
import Wide.FinOn
import KE.KStateDown
import Lean
import HandS.ForMost
import HandS.ForExc
import HandS.Evl
import HandS.IsInst
import HandS.Wide
import HandS.Defaults
import HandS.Conv
import HandS.Head0
import HandS.Head1
import HandS.Head2
import HandS.HeadEnd
import HandS.HeadHook1
import HandS.HeadHook2
import HandS.Star
import HandS.Deep
import HandS.Style
import KE.KExcSuper
import HandS.ExcInit
import HandS.ExcField
import HandS.ExcIs
import HandS.HotCalls
import KE.KExcIs
import HandS.Property
import HandS.ForDict
import HandS.Text
import HandS.RaiseMore
import KE.GoesMore
import HandS.Conv
import HandS.IterVal
import HandS.ClsMeth
import HandS.OwnIter
import HandS.CallLocal
import HandS.TupLen
import HandS.DictComp
import HandS.MakeKwOnly
import KE.KDictDisplayH
import PyProof.Rows.StrMul
import PyProof.StrLawsIn
import KE.DataMinMax
import PyProof.Rows.SetFrom
import HandS.SetFor
import HandS.Strs
import HandS.Comp
import KE.KDictCopyH
import KE.KDictOf
import KE.KRevSl
import HandS.TupAny
import KE.KOpsOwn
import HandS.GenList
import OpenK.KMore
import PyProof.Rows.SortShellAny
import HandS.FStr
import PyProof.FString3
import PyProof.Rows.StrIntSpec
import PyProof.StrBlock
import PyProof.Rows.Range3
import PyProof.Conv_bool
import OpenK.KOps
import PyProof.Rows.TupMore
import KE.KFmtOwn
import HandS.SetTxt0
import HandS.SetTxtIn
import HandS.TupSets
import PySem.Challenge.RW_murmurline_k60_lost_letters
set_option Elab.async false
set_option linter.all false
set_option maxRecDepth 100000
set_option maxHeartbeats 4000000

namespace Mu
open PySem PySem.Spec PyProof.Rows L2 He
abbrev FactB := PySem.W.Frag → Bool
def obsM (fa : List Fa) (ex : List FactB) (fn : List DefD) (K : PySem.W.Frag) : AlD := (((fa.all fun f => f.ok K) && ex.all fun f => f K) && fn.all fun d => d.ok K, fn.map fun d => fnW K d.at_)
def SaysM (fa : List Fa) (ex : List FactB) (fn : List DefD) (K : PySem.W.Frag) : Prop := obsM fa ex fn K = valD fn
def obsMG (n : Nat) (fa : List Fa) (ex : List FactB) (fn : List DefD) (g : Addr → Option Obj) : AlD := obsM fa ex fn (frG g (asD g n))
def hookM (n : Nat) (fa : List Fa) (ex : List FactB) (fn : List DefD) : PySem.W.Hook where
  α := AlD
  obs := fun s => obsMG n fa ex fn s.heap.get?
  val := fun _ => valD fn
  says := fun _ h => ∃ K : PySem.W.Frag, K.In h ∧ SaysM fa ex fn K
  of := fun _ _ e => ⟨_, frG_in, e⟩
  keeps := fun _ _ _ ⟨K, hK, c⟩ k => ⟨K, PySem.W.Frag.In.keeps hK k, c⟩
theorem obsMG_eq {n : Nat} {fa : List Fa} {ex : List FactB} {fn : List DefD} {g : Addr → Option Obj} {s : Shared} (h : ∀ a, g a = s.heap.get? a) : obsMG n fa ex fn g = (hookM n fa ex fn).obs s := by
  have e : g = s.heap.get? := funext h
  rw [e] <;> rfl
abbrev FnS : Type := Option (Str × Str × Arguments × FuncBody × Scope × Addr × List Str × Addr)
def fnS (K : PySem.W.Frag) (p : Str × Option Str) : FnS := match K.lookup (fAd K p) with
  | some ⟨_, _, .func fd, _⟩ => some (fd.name, fd.qualname, fd.params, fd.body, fd.scope, fd.globals, fd.closure.map (·.1), fd.builtins)
  | _ => none
structure DefS where
  at_ : Str × Option Str
  name : Str
  qual : Str
  params : Arguments
  body : List Stmt
  scope : Scope
  cls : Str
  file : Str
def DefS.val (d : DefS) : FnS := some (d.name, d.qual, d.params, .stmts d.body, d.scope, mainGlobals, [("__class__" : Str)], builtinsNs)
def cellB (K : PySem.W.Frag) (cc D : Addr) : Bool := match K.lookup cc with
  | some ⟨_, _, .cell (some (.ref d)), _⟩ => d == D
  | _ => false
def fileB (K : PySem.W.Frag) (cda : Addr) (file : Str) : Bool := match K.lookup cda with
  | some ⟨_, _, .fields vs, _⟩ => (match (vs[2]? : Option Value) with | some (Value.str x _) => x == file | _ => false)
  | _ => false
def supB (K : PySem.W.Frag) (q : Str) (D : Addr) (file : Str) (cl : List (Str × Addr)) (cd : Value) : Bool := match cl, cd with
  | [(_, cc)], .ref cda => PySem.W.codeIn K (.ref cda) q && (cellB K cc D && fileB K cda file)
  | _, _ => false
def DefS.ok (K : PySem.W.Frag) (d : DefS) : Bool := PySem.W.keepIn K (.ref (fAd K d.at_)) && ((PySem.W.clsIn K (ga K d.cls)).isSome && (decide (PySem.W.nsIn K cStatics "thirdparty.any" = some none) && (match K.lookup (fAd K d.at_) with
  | some ⟨_, _, .func fd, _⟩ => decide (fd.defaults = Value.none) && supB K d.qual (ga K d.cls) d.file fd.closure fd.code
  | _ => false)))
abbrev AlS : Type := Bool × List FnW × List FnS
def obsS (fa : List Fa) (ex : List FactB) (fn : List DefD) (sn : List DefS) (K : PySem.W.Frag) : AlS := ((((fa.all fun f => f.ok K) && ex.all fun f => f K) && fn.all fun d => d.ok K) && sn.all fun d => d.ok K, fn.map fun d => fnW K d.at_, sn.map fun d => fnS K d.at_)
def valS (fn : List DefD) (sn : List DefS) : AlS := (true, fn.map DefD.val, sn.map DefS.val)
def SaysS (fa : List Fa) (ex : List FactB) (fn : List DefD) (sn : List DefS) (K : PySem.W.Frag) : Prop := obsS fa ex fn sn K = valS fn sn
structure DefA where
  at_ : PySem.W.Frag → Addr
  name : Str
  qual : Str
  params : Arguments
  body : List Stmt
  scope : Scope
def fnA (K : PySem.W.Frag) (a : Addr) : FnW := match K.lookup a with
  | some ⟨_, _, .func fd, _⟩ => some (fd.name, fd.qualname, fd.params, fd.body, fd.scope, fd.globals, fd.closure, fd.builtins)
  | _ => none
def DefA.val (d : DefA) : FnW := some (d.name, d.qual, d.params, .stmts d.body, d.scope, mainGlobals, [], builtinsNs)
def DefA.ok (K : PySem.W.Frag) (d : DefA) : Bool := PySem.W.keepIn K (.ref (d.at_ K)) && (match K.lookup (d.at_ K) with
  | some ⟨_, _, .func fd, _⟩ => PySem.W.codeIn K fd.code d.qual && (dflB K fd.defaults [] && kwdB K fd.kwdefaults [])
  | _ => false)
abbrev AlP : Type := Bool × List FnW × List FnS × List FnW
def obsP (fa : List Fa) (ex : List FactB) (fn : List DefD) (sn : List DefS) (an : List DefA) (K : PySem.W.Frag) : AlP := (((((fa.all fun f => f.ok K) && ex.all fun f => f K) && fn.all fun d => d.ok K) && sn.all fun d => d.ok K) && an.all fun d => d.ok K, fn.map fun d => fnW K d.at_, sn.map fun d => fnS K d.at_, an.map fun d => fnA K (d.at_ K))
def valP (fn : List DefD) (sn : List DefS) (an : List DefA) : AlP := (true, fn.map DefD.val, sn.map DefS.val, an.map DefA.val)
def SaysP (fa : List Fa) (ex : List FactB) (fn : List DefD) (sn : List DefS) (an : List DefA) (K : PySem.W.Frag) : Prop := obsP fa ex fn sn an K = valP fn sn an
end Mu

namespace MuL
open PySem PySem.Spec PyProof.Rows L2 He Evl Mu
def top (i : Nat) : Stmt := PySem.Challenge.pw_murmurline_k60_lost_letters.main.body.getD i (.Pass ⟨0, 0, 0, 0⟩)
abbrev s_subrows : Stmt := top 1
abbrev s__law_box : Stmt := top 4
abbrev s__law_take : Stmt := top 5
abbrev s__law_letters : Stmt := top 6
abbrev s__law_subsets : Stmt := top 3
abbrev s__law_left : Stmt := top 7
abbrev s_law : Stmt := top 8
def d_subrows : He.DefD := ⟨("subrows", none), "subrows", "subrows", defArgs s_subrows, defBody s_subrows, defScope s_subrows, [], []⟩
def d__law_box : He.DefD := ⟨("_law_box", none), "_law_box", "_law_box", defArgs s__law_box, defBody s__law_box, defScope s__law_box, [], []⟩
def d__law_take : He.DefD := ⟨("_law_take", none), "_law_take", "_law_take", defArgs s__law_take, defBody s__law_take, defScope s__law_take, [], []⟩
def d__law_letters : He.DefD := ⟨("_law_letters", none), "_law_letters", "_law_letters", defArgs s__law_letters, defBody s__law_letters, defScope s__law_letters, [], []⟩
def d__law_subsets : He.DefD := ⟨("_law_subsets", none), "_law_subsets", "_law_subsets", defArgs s__law_subsets, defBody s__law_subsets, defScope s__law_subsets, [], []⟩
def d__law_left : He.DefD := ⟨("_law_left", none), "_law_left", "_law_left", defArgs s__law_left, defBody s__law_left, defScope s__law_left, [], []⟩
def d_law : He.DefD := ⟨("law", none), "law", "law", defArgs s_law, defBody s_law, defScope s_law, [], []⟩
def fa : List He.Fa := [.glo "subrows", .glo "_law_box", .glo "_law_take", .glo "_law_letters", .glo "_law_subsets", .glo "_law_left", .glo "law", .free "len", .free "range", .free "list", .free "int", .free "abs", .free "str", .free "sorted", .free "set"]
def ex : List Mu.FactB := []
def fn : List He.DefD := [d_subrows, d__law_box, d__law_take, d__law_letters, d__law_subsets, d__law_left, d_law]
end MuL

set_option maxHeartbeats 0
namespace MuL
open PySem PySem.Spec PyProof.Rows L2 He Evl Mu
def loose0 : List Str := ["subrows", "_law_subsets", "_law_box", "_law_take", "_law_letters", "_law_left"]
def loose : List Str := loose0
abbrev R : PySem.W.OpenRow := PySem.W.OpenLaw.row PySem.Challenge.rw_murmurline_k60_lost_letters
abbrev hk : PySem.W.Hook := Mu.hookM 5 fa ex fn
def ob (s : PySem.W.SharedT) : He.AlD := Mu.obsMG 5 fa ex fn (HandSHeadRun.getT s)
theorem ob_eq (s : PySem.W.SharedT) : ob s = hk.obs s.abs := Mu.obsMG_eq (HandSHeadRun.getT_eq s)
theorem run (w : World) : HandSHeadRun.RunEq R (PySem.W.view R.prog [8]) hk ob 40000 loose w := by
  intro os
  kernel_rfl
end MuL

set_option maxHeartbeats 4000000
namespace Mu
open PySem L2 Evl

def Mt (o : HO) : Prop := ∀ xs, o ≠ .tup xs
theorem mt_lst {ws : List V} : Mt (.lst ws) := fun _ z => nomatch z
theorem mt_ins {C dx : Addr} {fs : List (Str × V)} : Mt (.ins C dx fs) := fun _ z => nomatch z
structure Gr (G H G2 H2 : Hp) : Prop where
  g : Ex G G2
  h : Ex H H2
  i : Ex G2 H2
  n : ∀ a o, H a = some o → Mt o → G a = none → G2 a = none
theorem Gr.refl {G H : Hp} (e : Ex G H) : Gr G H G H := ⟨Ex.refl _, Ex.refl _, e, fun _ _ _ _ n => n⟩
theorem Gr.trans {G H G2 H2 G3 H3 : Hp} (a : Gr G H G2 H2) (b : Gr G2 H2 G3 H3) : Gr G H G3 H3 :=
  ⟨a.g.trans b.g, a.h.trans b.h, b.i, fun c o q t z => b.n c o (a.h c o q) t (a.n c o q t z)⟩
theorem Gr.more {G H G2 H2 H3 : Hp} (a : Gr G H G2 H2) (e : Ex H2 H3) : Gr G H G2 H3 := ⟨a.g, a.h.trans e, a.i.trans e, a.n⟩
theorem Gr.new {G H : Hp} {p : Addr} {o : HO} (e : Ex G H) (hp : H p = none) : Gr G H (upd G p o) (upd H p o) where
  g := Ex.new (fresh_back e hp)
  h := Ex.new hp
  i := fun a u z => by
    by_cases q : a = p
    · subst q
      rw [upd_same] at z ⊢
      exact z
    · rw [upd_ne q] at z ⊢
      exact e a u z
  n := fun a u z _ y => by rw [upd_ne (ne_of_none z hp)]; exact y
theorem Gr.out {G H : Hp} {p : Addr} {o : HO} (e : Ex G H) (hp : H p = none) : Gr G H G (upd H p o) := (Gr.refl e).more (Ex.new hp)
def un (A B : Hp) : Hp := fun a => match A a with
  | some o => some o
  | none => B a
theorem un_l {A B : Hp} {a : Addr} {o : HO} (h : A a = some o) : un A B a = some o := by unfold un; rw [h]
theorem un_r {A B : Hp} {a : Addr} (h : A a = none) : un A B a = B a := by unfold un; rw [h]
theorem ex_un_l {A B : Hp} : Ex A (un A B) := fun _ _ h => un_l h
theorem ex_un_r {A B H : Hp} (ha : Ex A H) (hb : Ex B H) : Ex B (un A B) := fun a o h => by
  cases q : A a with
  | none => rw [un_r q]; exact h
  | some u =>
    have h1 := ha a u q
    have h2 := hb a o h
    rw [h1] at h2
    rw [un_l q]
    exact h2
theorem un_in {A B H : Hp} (ha : Ex A H) (hb : Ex B H) : Ex (un A B) H := fun a o h => by
  cases q : A a with
  | none => rw [un_r q] at h; exact hb a o h
  | some u => rw [un_l q] at h; exact ha a o (q.trans h)
theorem Gr.up {G G' H G2 H2 : Hp} (e : Ex G G') (e' : Ex G' H) (a : Gr G H G2 H2) : Gr G' H (un G' G2) H2 where
  g := ex_un_l
  h := a.h
  i := un_in (e'.trans a.h) a.i
  n := fun c o q t z => by rw [un_r z]; exact a.n c o q t (fresh_back e z)
theorem Gr.upr {G G' H G2 H2 : Hp} (e' : Ex G' H) (a : Gr G H G2 H2) : Ex G2 (un G' G2) := ex_un_r (e'.trans a.h) a.i

structure Rp where
  p : V → Hp → Prop
  mono : ∀ {v : V} {H H' : Hp}, Ex H H' → p v H → p v H'
abbrev RA (H : Hp) : List V → List Rp → Prop := Paired fun v r => r.p v H
theorem RA.mono {H H' : Hp} (e : Ex H H') : ∀ {vs : List V} {rs : List Rp}, RA H vs rs → RA H' vs rs
  | _, _, .nil => .nil
  | _, _, .cons (b := r) h t => .cons (r.mono e h) (RA.mono e t)
theorem RA.len {H : Hp} {vs : List V} {rs : List Rp} (h : RA H vs rs) : vs.length = rs.length := Paired.length h
theorem RA.get {H : Hp} : ∀ {vs : List V} {rs : List Rp} {i : Nat} {r : Rp}, RA H vs rs → rs[i]? = some r → ∃ v, vs[i]? = some v ∧ r.p v H
  | _, _, _, _, .nil, e => by simp at e
  | _, _, 0, _, .cons h t, e => by simp at e; subst e; exact ⟨_, rfl, h⟩
  | _, _, i + 1, r, .cons h t, e => by
    obtain ⟨v, h1, h2⟩ := RA.get (i := i) (r := r) t (by simpa using e)
    exact ⟨v, by simpa using h1, h2⟩
theorem RA.getV {H : Hp} : ∀ {vs : List V} {rs : List Rp} {i : Nat} {v : V}, RA H vs rs → vs[i]? = some v → ∃ r, rs[i]? = some r ∧ r.p v H
  | _, _, _, _, .nil, e => by simp at e
  | _, _, 0, _, .cons h t, e => by simp at e; subst e; exact ⟨_, rfl, h⟩
  | _, _, i + 1, v, .cons h t, e => by
    obtain ⟨r, h1, h2⟩ := RA.getV (i := i) (v := v) t (by simpa using e)
    exact ⟨r, by simpa using h1, h2⟩
theorem RA.snoc {H : Hp} {vs : List V} {rs : List Rp} {v : V} {r : Rp} (h : RA H vs rs) (q : r.p v H) : RA H (vs ++ [v]) (rs ++ [r]) := Paired.snoc h q
theorem RA.append {H : Hp} : ∀ {vs ws : List V} {rs ss : List Rp}, RA H vs rs → RA H ws ss → RA H (vs ++ ws) (rs ++ ss)
  | _, _, _, _, .nil, q => q
  | _, _, _, _, .cons h t, q => .cons h (RA.append t q)
theorem RA.set {H : Hp} {v : V} {r : Rp} (q : r.p v H) : ∀ {vs : List V} {rs : List Rp} (i : Nat), RA H vs rs → RA H (vs.set i v) (rs.set i r)
  | _, _, _, .nil => .nil
  | _, _, 0, .cons _ t => .cons q t
  | _, _, i + 1, .cons h t => .cons h (RA.set q i t)

def rV (v : V) : Rp := ⟨fun x _ => x = v, fun _ h => h⟩
abbrev rI (i : Int) : Rp := rV (.int i)
abbrev rB (b : Bool) : Rp := rV (.bl b)
abbrev rS (s : Str) : Rp := rV (.str s)
def rL (_K : PySem.W.Frag) (rs : List Rp) : Rp := ⟨fun v H => ∃ a vs, v = .ref a ∧ H a = some (.lst vs) ∧ RA H vs rs, fun e ⟨a, vs, h1, h2, h3⟩ => ⟨a, vs, h1, e _ _ h2, h3.mono e⟩⟩
section
variable (K : PySem.W.Frag)
def rLs (rs : List Rp) : Rp := ⟨fun v H => ∃ a vs, v = .ref a ∧ SqL K H a vs ∧ RA H vs rs, fun e ⟨a, vs, h1, h2, h3⟩ => ⟨a, vs, h1, ex_l e h2, h3.mono e⟩⟩
def rT (rs : List Rp) : Rp := ⟨fun v H => ∃ a vs, v = .ref a ∧ SqT K H a vs ∧ RA H vs rs, fun e ⟨a, vs, h1, h2, h3⟩ => ⟨a, vs, h1, ex_t e h2, h3.mono e⟩⟩
abbrev nI (n : Nat) : Rp := rI (n : Int)
def rLn (l : List Nat) : Rp := rL K (l.map nI)
def rTn (l : List Nat) : Rp := rT K (l.map nI)
def rLL (l : List (List Nat)) : Rp := rL K (l.map (rLn K))
end
theorem ra_nats_eq {H : Hp} : ∀ {l : List Nat} {vs : List V}, RA H vs (l.map nI) → vs = l.map fun (n : Nat) => V.int (n : Int)
  | [], _, .nil => rfl
  | n :: r, _, .cons h t => by
    have e1 := ra_nats_eq (l := r) t
    have e2 : _ = V.int (n : Int) := h
    rw [e1, e2]; rfl

def EvD (te : TE) (σ : L2.St) (G : Hp) (r : Rp) : Prop := ∀ H, Ex G H → ∀ Q : VK, (∀ v G2 H2, Gr G H G2 H2 → r.p v G2 → Q v H2) → te σ H Q
def EvN (te : TE) (σ : L2.St) (G : Hp) (rs : List Rp) : Prop := ∀ H, Ex G H → ∀ Q : VK, (∀ p vs G2 H2, Gr G H G2 H2 → H p = none → G2 p = none → H2 p = some (.lst vs) → RA G2 vs rs → Q (.ref p) H2) → te σ H Q
def EvAD (ta : TA) (σ : L2.St) (G : Hp) (rs : List Rp) : Prop := ∀ H, Ex G H → ∀ Q : List V → Hp → Prop, (∀ vs G2 H2, Gr G H G2 H2 → RA G2 vs rs → Q vs H2) → ta σ H Q
section
variable {σ : L2.St} {G G' : Hp} {te ta tb : TE} {r r1 r2 : Rp} {v w x y z : V} {K : PySem.W.Frag}
theorem EvD.mono (e : Ex G G') (h : EvD te σ G r) : EvD te σ G' r := fun H e' Q q =>
  h H (e.trans e') Q fun v G2 H2 g hp => q v (un G' G2) H2 (g.up e e') (r.mono (g.upr e') hp)
theorem EvN.mono {rs : List Rp} (e : Ex G G') (h : EvN te σ G rs) : EvN te σ G' rs := fun H e' Q q =>
  h H (e.trans e') Q fun p vs G2 H2 g hp gp h2 ra => q p vs (un G' G2) H2 (g.up e e') hp (by rw [un_r (fresh_back e' hp)]; exact gp) h2 (ra.mono (g.upr e'))
theorem EvAD.mono {ta : TA} {rs : List Rp} (e : Ex G G') (h : EvAD ta σ G rs) : EvAD ta σ G' rs := fun H e' Q q =>
  h H (e.trans e') Q fun vs G2 H2 g hp => q vs (un G' G2) H2 (g.up e e') (hp.mono (g.upr e'))
theorem Ev.d (h : Ev te σ G v) : EvD te σ G (rV v) := fun H e Q q => h H e Q fun H2 e2 => q v G H2 ((Gr.refl e).more e2) rfl
theorem EvD.ev (h : EvD te σ G (rV v)) : Ev te σ G v := fun H e Q q => h H e Q fun v' G2 H2 g (hv : v' = v) => by subst hv; exact q H2 g.h
theorem ed_var {i : Nat} (h : σ[i]? = some (some v)) (hr : r.p v G) : EvD (tVar i) σ G r := fun H e Q q => ⟨v, h, q v G H (Gr.refl e) hr⟩
theorem EvN.d {rs : List Rp} (h : EvN te σ G rs) : EvD te σ G (rL K rs) := fun H e Q q => h H e Q fun p vs G2 H2 g hp gp h2 ra => by
  have e2 : Ex (upd G2 p (.lst vs)) H2 := fun a u z => by
    by_cases c : a = p
    · subst c
      rw [upd_same] at z
      rw [h2]; exact z
    · rw [upd_ne c] at z
      exact g.i a u z
  refine q (.ref p) (upd G2 p (.lst vs)) H2 ⟨g.g.trans (Ex.new gp), g.h, e2, fun a u z t y => ?_⟩ ⟨p, vs, rfl, upd_same, ra.mono (Ex.new gp)⟩
  rw [upd_ne (ne_of_none z hp)]
  exact g.n a u z t y
theorem ead_nil : EvAD tNil σ G [] := fun H e Q q => q [] G H (Gr.refl e) .nil
theorem ead_cons {tr : TA} {rs : List Rp} (h : EvD te σ G r) (hr : EvAD tr σ G rs) : EvAD (tCons te tr) σ G (r :: rs) := fun H e Q q =>
  h H e _ fun v G2 H2 g hv => (hr.mono g.g) H2 g.i _ fun vs G3 H3 g3 hvs => q (v :: vs) G3 H3 (g.trans g3) (.cons (r.mono g3.g hv) hvs)
def SpD (sp : Sp) (vs : List V) (G : Hp) (r : Rp) : Prop := ∀ H, Ex G H → ∀ Q : VK, (∀ v G2 H2, Gr G H G2 H2 → r.p v G2 → Q v H2) → ∀ E : XK, sp vs H Q E
def SpN (sp : Sp) (vs : List V) (G : Hp) (rs : List Rp) : Prop := ∀ H, Ex G H → ∀ Q : VK, (∀ p vs G2 H2, Gr G H G2 H2 → H p = none → G2 p = none → H2 p = some (.lst vs) → RA G2 vs rs → Q (.ref p) H2) → ∀ E : XK, sp vs H Q E
theorem ed_op {rr : R2} (ha : EvD ta σ G r1) (hb : EvD tb σ G r2) (hs : ∀ x y G2 H, Ex G G2 → Ex G2 H → r1.p x G2 → r2.p y G2 → ∀ Q : VK, (∀ v G3 H3, Gr G2 H G3 H3 → r.p v G3 → Q v H3) → rr x y H Q) : EvD (tOp rr ta tb) σ G r := fun H e Q q =>
  ha H e _ fun x G2 H2 g hx => (hb.mono g.g) H2 g.i _ fun y G3 H3 g3 hy => hs x y G3 H3 (g.g.trans g3.g) g3.i (r1.mono g3.g hx) hy Q fun v G4 H4 g4 hv => q v G4 H4 ((g.trans g3).trans g4) hv
theorem en_op {rr : R2} {ss : List Rp} (ha : EvD ta σ G r1) (hb : EvD tb σ G r2) (hs : ∀ x y G2 H, Ex G G2 → Ex G2 H → r1.p x G2 → r2.p y G2 → ∀ Q : VK, (∀ p ws G3 H3, Gr G2 H G3 H3 → H p = none → G3 p = none → H3 p = some (.lst ws) → RA G3 ws ss → Q (.ref p) H3) → rr x y H Q) : EvN (tOp rr ta tb) σ G ss := fun H e Q q =>
  ha H e _ fun x G2 H2 g hx => (hb.mono g.g) H2 g.i _ fun y G3 H3 g3 hy => hs x y G3 H3 (g.g.trans g3.g) g3.i (r1.mono g3.g hx) hy Q fun p ws G4 H4 g4 hp gp h4 ra => q p ws G4 H4 ((g.trans g3).trans g4) (fresh_back (g.h.trans g3.h) hp) gp h4 ra
theorem ev_op2 {rr : R2} (ha : EvD ta σ G r1) (hb : EvD tb σ G r2) (hs : ∀ x y H, r1.p x H → r2.p y H → ∀ Q : VK, Q z H → rr x y H Q) : Ev (tOp rr ta tb) σ G z := EvD.ev (ed_op ha hb fun x y G2 H _ e hx hy Q q => hs x y H (r1.mono e hx) (r2.mono e hy) Q (q z G2 H (Gr.refl e) rfl))
theorem ed_ixT {rs : List Rp} {i : Nat} (ha : EvD ta σ G (rT K rs)) (hb : Ev tb σ G (.int (i : Int))) (hi : rs[i]? = some r) : EvD (tOp (rIxT K) ta tb) σ G r :=
  ed_op ha (Ev.d hb) fun x y G2 H _ e hx hy Q q => by
    obtain ⟨a, vs, rfl, h1, h2⟩ := hx
    obtain ⟨v, h3, h4⟩ := h2.get hi
    have hy' : y = .int (i : Int) := hy
    subst hy'
    exact ⟨a, vs, (i : Int), v, rfl, rfl, ex_t e h1, atI_nat h3, q v G2 H (Gr.refl e) h4⟩
theorem ed_ixL {rs : List Rp} {i : Nat} (ha : EvD ta σ G (rL K rs)) (hb : Ev tb σ G (.int (i : Int))) (hi : rs[i]? = some r) : EvD (tOp (rIxL K) ta tb) σ G r :=
  ed_op ha (Ev.d hb) fun x y G2 H _ e hx hy Q q => by
    obtain ⟨a, vs, rfl, h1, h2⟩ := hx
    obtain ⟨v, h3, h4⟩ := h2.get hi
    have hy' : y = .int (i : Int) := hy
    subst hy'
    exact ⟨a, vs, (i : Int), v, rfl, rfl, sq_of (e _ _ h1), atI_nat h3, q v G2 H (Gr.refl e) h4⟩
def rTupO (K : PySem.W.Frag) : List V → Hp → VK → Prop := fun xs H Q => ∃ p ys, xs = [.ref p] ∧ ((SqL K H p ys ∧ ∀ l, H l = none → Q (.ref l) (upd H l (.tup ys))) ∨ (SqT K H p ys ∧ Q (.ref p) H))
theorem ev_lenL {rs : List Rp} {n : Nat} (h : EvD te σ G (rL K rs)) (hn : rs.length = n) : Ev (tCB (rLenS K) (tCons te tNil)) σ G (.int (n : Int)) := fun H e Q q =>
  h H e _ fun v G2 H2 g ⟨a, vs, hv, h1, h2⟩ => by
    subst hv
    refine ⟨a, vs, rfl, Or.inl (sq_of (g.i _ _ h1)), ?_⟩
    rw [h2.len, hn]
    exact q H2 g.h
theorem ev_lenT {rs : List Rp} {n : Nat} (h : EvD te σ G (rT K rs)) (hn : rs.length = n) : Ev (tCB (rLenS K) (tCons te tNil)) σ G (.int (n : Int)) := fun H e Q q =>
  h H e _ fun v G2 H2 g ⟨a, vs, hv, h1, h2⟩ => by
    subst hv
    refine ⟨a, vs, rfl, Or.inr (ex_t g.i h1), ?_⟩
    rw [h2.len, hn]
    exact q H2 g.h
theorem en_listL {rs : List Rp} (h : EvD te σ G (rL K rs)) : EvN (tCB (rListS K) (tCons te tNil)) σ G rs := fun H e Q q =>
  h H e _ fun v G2 H2 g ⟨a, vs, hv, h1, h2⟩ => by
    subst hv
    exact ⟨a, vs, rfl, Or.inl (sq_of (g.i _ _ h1)), fun l hl => q l vs G2 _ (g.more (Ex.new hl)) (fresh_back g.h hl) (fresh_back g.i hl) upd_same h2⟩
theorem en_listT {rs : List Rp} (h : EvD te σ G (rT K rs)) : EvN (tCB (rListS K) (tCons te tNil)) σ G rs := fun H e Q q =>
  h H e _ fun v G2 H2 g ⟨a, vs, hv, h1, h2⟩ => by
    subst hv
    exact ⟨a, vs, rfl, Or.inr (ex_t g.i h1), fun l hl => q l vs G2 _ (g.more (Ex.new hl)) (fresh_back g.h hl) (fresh_back g.i hl) upd_same h2⟩
theorem ed_tupL {rs : List Rp} (h : EvD te σ G (rL K rs)) : EvD (tCB (rTupO K) (tCons te tNil)) σ G (rT K rs) := fun H e Q q =>
  h H e _ fun v G2 H2 g ⟨a, vs, hv, h1, h2⟩ => by
    subst hv
    refine ⟨a, vs, rfl, Or.inl ⟨sq_of (g.i _ _ h1), fun l hl => ?_⟩⟩
    have g3 := Gr.new (o := .tup vs) g.i hl
    exact q (.ref l) _ _ (g.trans g3) ⟨l, vs, rfl, st_of upd_same, h2.mono g3.g⟩
theorem ed_tup {ta : TA} {rs : List Rp} (h : EvAD ta σ G rs) (hl : rs.length ≤ 100000) : EvD (tTup ta) σ G (rT K rs) := fun H e Q q =>
  h H e _ fun vs G2 H2 g hv => ⟨sz_of (by rw [hv.len]; exact hl), fun p hp => by
    have g3 := Gr.new (o := .tup vs) g.i hp
    exact q (.ref p) _ _ (g.trans g3) ⟨p, vs, rfl, st_of upd_same, hv.mono g3.g⟩⟩
theorem en_lst {ta : TA} {rs : List Rp} (h : EvAD ta σ G rs) (hl : rs.length ≤ 100000) : EvN (tLst ta) σ G rs := fun H e Q q =>
  h H e _ fun vs G2 H2 g hv => ⟨sz_of (by rw [hv.len]; exact hl), fun p hp => q p vs G2 _ (g.more (Ex.new hp)) (fresh_back g.h hp) (fresh_back g.i hp) upd_same hv⟩
end

section
variable {σ : L2.St} {G : Hp} {te tl : TE} {t : TT} {K : PySem.W.Frag} {α : Type} {j : Nat} {vs : List Nat}
def Cm (G0 H0 : Hp) (Dl : Addr) (rs : List Rp) (H' : Hp) : Prop := H0 Dl = none ∧ ∃ G' ws, Gr G0 H0 G' H' ∧ G' Dl = none ∧ H' Dl = some (.lst ws) ∧ RA G' ws rs
theorem cm_turn {G0 H0 H' : Hp} {Dl : Addr} {rs : List Rp} {b : Bool} {r : Rp} {σ2 : L2.St} (hz : rs.length < 50000) (p : Cm G0 H0 Dl rs H') (ht : ∀ G1, Ex G0 G1 → Ex G1 H' → EvT t σ2 G1 b) (he : b = true → ∀ G1, Ex G0 G1 → Ex G1 H' → EvD te σ2 G1 r) :
    t σ2 H' fun b H3 => if b = true then te σ2 H3 fun y H4 => ∃ acc, H4 Dl = some (.lst acc) ∧ acc.length < sizeLine ∧ Cm G0 H0 Dl (rs ++ (if true = true then [r] else [])) (upd H4 Dl (.lst (acc ++ [y]))) else Cm G0 H0 Dl rs H3 := by
  obtain ⟨p1, G', ws, g, hG, hD, ra⟩ := p
  refine ht G' g.g g.i H' g.i _ fun H3 e3 => ?_
  cases b with
  | true =>
    show te σ2 H3 fun y H4 => _
    refine he rfl G' g.g g.i H3 (g.i.trans e3) _ fun y G4 H4 g4 hy => ⟨ws, g4.h _ _ (e3 _ _ hD), sz_lt (by rw [ra.len]; omega), p1, G4, ws ++ [y], ?_, g4.n _ _ (e3 _ _ hD) mt_lst hG, upd_same, (ra.mono g4.g).snoc hy⟩
    have q := (g.more e3).trans g4
    exact ⟨q.g, Ex.mut q.h p1, Ex.mut q.i (g4.n _ _ (e3 _ _ hD) mt_lst hG), q.n⟩
  | false =>
    show Cm G0 H0 Dl rs H3
    exact ⟨p1, G', ws, g.more e3, hG, e3 _ _ hD, ra⟩
theorem filter_take_succ {l : List α} {f : α → Bool} {rr : α → Rp} {i : Nat} {a : α} (h : l[i]? = some a) : ((l.take (i + 1)).filter f).map rr = ((l.take i).filter f).map rr ++ (if f a = true then [rr a] else []) := by
  rw [List.take_add_one, h, List.filter_append, List.map_append]
  congr 1
  cases q : f a <;> simp [q]
theorem cm_step {l : List α} {f : α → Bool} {rr : α → Rp} {G0 H0 H' : Hp} {Dl : Addr} {i : Nat} {a : α} {σ2 : L2.St} (h : l[i]? = some a) (hz : l.length ≤ 40000) (p : Cm G0 H0 Dl (((l.take i).filter f).map rr) H')
    (ht : ∀ G1, Ex G0 G1 → Ex G1 H' → EvT t σ2 G1 (f a)) (he : f a = true → ∀ G1, Ex G0 G1 → Ex G1 H' → EvD te σ2 G1 (rr a)) :
    t σ2 H' fun b H3 => if b = true then te σ2 H3 fun y H4 => ∃ acc, H4 Dl = some (.lst acc) ∧ acc.length < sizeLine ∧ Cm G0 H0 Dl (((l.take (i + 1)).filter f).map rr) (upd H4 Dl (.lst (acc ++ [y]))) else Cm G0 H0 Dl (((l.take (i + 1)).filter f).map rr) H3 := by
  rw [filter_take_succ h]
  have hl : (((l.take i).filter f).map rr).length < 50000 := by
    rw [List.length_map]
    have h1 := List.length_filter_le f (l.take i)
    have h2 := List.length_take_le i l
    have h3 : (l.take i).length ≤ l.length := by rw [List.length_take]; omega
    omega
  have z := cm_turn (t := t) (te := te) (r := rr a) (b := f a) hl p ht he
  cases q : f a with
  | true =>
    rw [q] at ht
    obtain ⟨p1, G', ws, g, hG, hD, ra⟩ := p
    refine ht G' g.g g.i H' g.i _ fun H3 e3 => ?_
    show te σ2 H3 fun y H4 => _
    refine he q G' g.g g.i H3 (g.i.trans e3) _ fun y G4 H4 g4 hy => ⟨ws, g4.h _ _ (e3 _ _ hD), sz_lt (by rw [ra.len]; omega), p1, G4, ws ++ [y], ?_, g4.n _ _ (e3 _ _ hD) mt_lst hG, upd_same, (ra.mono g4.g).snoc hy⟩
    have q := (g.more e3).trans g4
    exact ⟨q.g, Ex.mut q.h p1, Ex.mut q.i (g4.n _ _ (e3 _ _ hD) mt_lst hG), q.n⟩
  | false =>
    rw [q] at ht
    obtain ⟨p1, G', ws, g, hG, hD, ra⟩ := p
    refine ht G' g.g g.i H' g.i _ fun H3 e3 => ?_
    show Cm G0 H0 Dl (_ ++ []) H3
    rw [List.append_nil]
    exact ⟨p1, G', ws, g.more e3, hG, e3 _ _ hD, ra⟩
theorem cm_start {G0 H0 : Hp} {Dl : Addr} (e : Ex G0 H0) (h : H0 Dl = none) : Cm G0 H0 Dl [] (upd H0 Dl (.lst [])) := ⟨h, G0, [], Gr.out e h, fresh_back e h, upd_same, .nil⟩
theorem en_lcL (l : List α) (ρ : α → Rp) (f : α → Bool) (rr : α → Rp) (h : EvD tl σ G (rL K (l.map ρ))) (hz : l.length ≤ 40000) (hw : ∀ x, wipe ((wipe σ vs).set j (some x)) vs = wipe σ vs)
    (ht : ∀ a x G1, a ∈ l → Ex G G1 → (ρ a).p x G1 → EvT t ((wipe σ vs).set j (some x)) G1 (f a)) (he : ∀ a x G1, a ∈ l → f a = true → Ex G G1 → (ρ a).p x G1 → EvD te ((wipe σ vs).set j (some x)) G1 (rr a)) :
    EvN (tLc (iList K tl) (gName j) t te vs) σ G ((l.filter f).map rr) := fun H0 e Q q => h H0 e _ fun v G1 H1 g1 ⟨a, xs, hv, h1, h2⟩ => by
  subst hv
  refine ⟨a, rfl, ⟨xs, sq_of (g1.i _ _ h1)⟩, fun Dl hD => lc_list (xs := xs) (fun i H' => Cm G1 H1 Dl (((l.take i).filter f).map rr) H') (cm_start g1.i hD) (fun i H' _ p => ?_) (fun i x H' hi p => ⟨hw x, ?_⟩) (fun H' p => ?_)⟩
  · obtain ⟨_, G', ws, g, _, _, _⟩ := p
    exact sq_of ((g.g.trans g.i) _ _ h1)
  · obtain ⟨r, hr, hx⟩ := h2.getV hi
    rw [List.getElem?_map] at hr
    cases q2 : l[i]? with
    | none => rw [q2] at hr; cases hr
    | some b =>
      rw [q2] at hr
      have hr' : ρ b = r := Option.some.inj hr
      subst hr'
      have hm : b ∈ l := List.mem_of_getElem? q2
      exact cm_step q2 hz p (fun G2 e1 e2 => ht b x G2 hm (g1.g.trans e1) ((ρ b).mono e1 hx)) (fun hf G2 e1 e2 => he b x G2 hm hf (g1.g.trans e1) ((ρ b).mono e1 hx))
  · obtain ⟨p1, G', ws, g, hG, hD', ra⟩ := p
    have el : xs.length = l.length := by rw [h2.len, List.length_map]
    rw [el, List.take_length] at ra
    exact q Dl ws G' H' (g1.trans g) (fresh_back g1.h p1) hG hD' ra
theorem en_lcT (l : List α) (ρ : α → Rp) (f : α → Bool) (rr : α → Rp) (h : EvD tl σ G (rT K (l.map ρ))) (hz : l.length ≤ 40000) (hw : ∀ x, wipe ((wipe σ vs).set j (some x)) vs = wipe σ vs)
    (ht : ∀ a x G1, a ∈ l → Ex G G1 → (ρ a).p x G1 → EvT t ((wipe σ vs).set j (some x)) G1 (f a)) (he : ∀ a x G1, a ∈ l → f a = true → Ex G G1 → (ρ a).p x G1 → EvD te ((wipe σ vs).set j (some x)) G1 (rr a)) :
    EvN (tLc (iTup K tl) (gName j) t te vs) σ G ((l.filter f).map rr) := fun H0 e Q q => h H0 e _ fun v G1 H1 g1 ⟨a, xs, hv, h1, h2⟩ => by
  subst hv
  refine ⟨a, rfl, ⟨xs, ex_t g1.i h1⟩, fun Dl hD => lc_tup (xs := xs) (fun i H' => Cm G1 H1 Dl (((l.take i).filter f).map rr) H') (cm_start g1.i hD) (fun i H' _ p => ?_) (fun i x H' hi p => ⟨hw x, ?_⟩) (fun H' p => ?_)⟩
  · obtain ⟨_, G', ws, g, _, _, _⟩ := p
    exact ex_t (g.g.trans g.i) h1
  · obtain ⟨r, hr, hx⟩ := h2.getV hi
    rw [List.getElem?_map] at hr
    cases q2 : l[i]? with
    | none => rw [q2] at hr; cases hr
    | some b =>
      rw [q2] at hr
      have hr' : ρ b = r := Option.some.inj hr
      subst hr'
      have hm : b ∈ l := List.mem_of_getElem? q2
      exact cm_step q2 hz p (fun G2 e1 e2 => ht b x G2 hm (g1.g.trans e1) ((ρ b).mono e1 hx)) (fun hf G2 e1 e2 => he b x G2 hm hf (g1.g.trans e1) ((ρ b).mono e1 hx))
  · obtain ⟨p1, G', ws, g, hG, hD', ra⟩ := p
    have el : xs.length = l.length := by rw [h2.len, List.length_map]
    rw [el, List.take_length] at ra
    exact q Dl ws G' H' (g1.trans g) (fresh_back g1.h p1) hG hD' ra
theorem range_get {n i : Nat} (h : i < n) : (List.range n)[i]? = some i := by rw [List.getElem?_range h]
theorem en_lcR {ta : TA} (n : Nat) (f : Nat → Bool) (rr : Nat → Rp) (h : EvA ta σ G [.int (n : Int)]) (hz : n ≤ 40000) (hw : ∀ x, wipe ((wipe σ vs).set j (some x)) vs = wipe σ vs)
    (ht : ∀ (a : Nat) G1, a < n → Ex G G1 → EvT t ((wipe σ vs).set j (some (.int (a : Int)))) G1 (f a)) (he : ∀ (a : Nat) G1, a < n → f a = true → Ex G G1 → EvD te ((wipe σ vs).set j (some (.int (a : Int)))) G1 (rr a)) :
    EvN (tLc (iRng1 ta) (gName j) t te vs) σ G (((List.range n).filter f).map rr) := fun H0 e Q q => h H0 e _ fun H1 e1 => by
  refine ⟨(n : Int), rfl, by omega, by omega, fun Dl hD => ?_⟩
  have g1 := (Gr.refl e).more e1
  rw [Int.toNat_natCast]
  refine lc_range (lo := 0) (n := n) (fun i H' => Cm G H1 Dl ((((List.range n).take i).filter f).map rr) H') (cm_start g1.i hD) (fun i H' hi p => ?_) (fun H' p => ?_)
  · have e0 : (0 : Int) + (i : Int) = (i : Int) := Int.zero_add _
    rw [e0]
    exact ⟨hw _, cm_step (range_get hi) (by rw [List.length_range]; exact hz) p (fun G2 e1 e2 => ht i G2 hi e1) (fun hf G2 e1 e2 => he i G2 hi hf e1)⟩
  · obtain ⟨p1, G', ws, g, hG, hD', ra⟩ := p
    have el : (List.range n).length = n := List.length_range
    rw [show (List.range n).take n = List.range n by rw [List.take_of_length_le (by rw [el]; omega)]] at ra
    exact q Dl ws G' H' (g1.trans (⟨g.g, g.h, g.i, g.n⟩ : Gr G H1 G' H')) (fresh_back e1 p1) hG hD' ra
theorem yes_T {b : Bool} (h : b = true) : EvT tYes σ G b := fun H e Q q => by subst h; exact q H (Ex.refl H)
theorem en_is {rs ss : List Rp} (h : EvN te σ G rs) (e : rs = ss) : EvN te σ G ss := e ▸ h
theorem ed_is {r s : Rp} (h : EvD te σ G r) (e : r = s) : EvD te σ G s := e ▸ h
end

section
variable {σ : L2.St} {G H : Hp} {te ta : TE} {t : TT} {K : PySem.W.Frag} {D : Ends} {tu tw : TS} {v : V} {r : Rp} {i : Nat}
theorem s_set (e : Ex G H) (h : Ev te σ G v) (k : ∀ H1, Ex H H1 → D.nx (σ.set i (some v)) H1) : tAsg te (gName i) D σ H := h H e _ fun H1 e1 => k H1 e1
theorem s_retE (e : Ex G H) (h : Ev te σ G v) (k : ∀ H1, Ex H H1 → D.rt v H1) : tRet te D σ H := h H e _ k
theorem s_retN {rs : List Rp} (e : Ex G H) (h : EvN te σ G rs) (k : ∀ p vs G2 H2, Gr G H G2 H2 → H p = none → G2 p = none → H2 p = some (.lst vs) → RA G2 vs rs → D.rt (.ref p) H2) : tRet te D σ H := h H e _ k
theorem s_ifE {b : Bool} (e : Ex G H) (h : EvT t σ G b) (h1 : b = true → ∀ H1, Ex H H1 → tu D σ H1) (h2 : b = false → ∀ H1, Ex H H1 → tw D σ H1) : tIfS t tu tw D σ H := h H e _ fun H1 e1 => by
  cases b with
  | true =>
    show tu D σ H1
    exact h1 rfl H1 e1
  | false =>
    show tw D σ H1
    exact h2 rfl H1 e1
end
end Mu

namespace Mu
open PySem PySem.Spec PyProof.Rows L2 Evl
section
variable {X : Cx} {CX : CXT} {k : Nat} {f C : Addr} {fd : FuncData} {ps : List Str} {sp : Sp} {E : XK}
end
section
variable {X : Cx} {CX : CXT} {k : Nat} {f C : Addr} {fd : FuncData} {ps : List Str} {sp : Sp} {E : XK} {e fe : Expr} {es : List Expr} {tf : TE} {t : TA} {pos : Pos}
end
section
variable {X : Cx} (K : PySem.W.Frag) {tg l e a b o : Expr} {tl ta tb te to : TE} {f : Str} {pos : Pos}
theorem pi_listK (hl : PE X l tl) (hK : X.K = K := by rfl) : PI X tg l (iList K tl) := hK ▸ pi_list hl
theorem ix_listK (hK : X.K = K := by rfl) : IxR X (rIxL K) := hK ▸ ix_list
theorem call_lenK (hK : X.K = K := by rfl) : CallR X (.builtin "len") (rLenS K) := hK ▸ call_len_seq
theorem op_notInK (hK : X.K = K := by rfl) : OpR X (compareOp .NotIn) (rIn K true) := hK ▸ op_notIn_seq
theorem op_eqK (hu : X.A.units + 64 < cLine) (hK : X.K = K := by rfl) : OpR X (compareOp .Eq) (rEqD K) := hK ▸ op_eqD hu
theorem op_neK (hu : X.A.units + 64 < cLine) (hK : X.K = K := by rfl) : OpR X (compareOp .NotEq) (rNeD K) := hK ▸ op_neD hu
theorem sl_listK (hK : X.K = K := by rfl) : SlR X (rSlL K) := hK ▸ sl_list
end
end Mu

namespace Mu
open PySem PySem.Spec PyProof.Rows L2 He
section
variable {fa : List Fa} {ex : List FactB} {fn : List DefD} {K : PySem.W.Frag}
theorem SaysM.fact (c : SaysM fa ex fn K) (i : Nat) {f : Fa} (h : fa[i]? = some f := by rfl) : f.ok K = true := by
  have c1 := (ba (ba (show (((fa.all fun f => f.ok K) && ex.all fun f => f K) && fn.all fun d => d.ok K) = true from congrArg (fun z : AlD => z.1) c)).1).1
  exact List.all_eq_true.mp c1 f (List.mem_of_getElem? h)
theorem SaysM.def_ (c : SaysM fa ex fn K) (i : Nat) {d : DefD} (h : fn[i]? = some d := by rfl) : ∃ fd, FunD K d.name d.qual d.params d.body d.scope (d.dvs K) (d.kws K) (fAd K d.at_) fd := by
  have c2 := (ba (show (((fa.all fun f => f.ok K) && ex.all fun f => f K) && fn.all fun d => d.ok K) = true from congrArg (fun z : AlD => z.1) c)).2
  have e : fn.map (fun d => fnW K d.at_) = fn.map DefD.val := congrArg (fun z : AlD => z.2) c
  have e2 : (fn.map fun d => fnW K d.at_)[i]? = (fn.map DefD.val)[i]? := by rw [e]
  rw [List.getElem?_map, List.getElem?_map, h] at e2
  exact DefD.funD (Option.some.inj e2) (List.all_eq_true.mp c2 d (List.mem_of_getElem? h))
end
end Mu

namespace Mu
open PySem
theorem band_nat (a b : Nat) : Builtin.bitAnd (a : Int) (b : Int) = ((a &&& b : Nat) : Int) := by simp [Builtin.bitAnd]
theorem bor_nat (a b : Nat) : Builtin.bitOr (a : Int) (b : Int) = ((a ||| b : Nat) : Int) := by
  unfold Builtin.bitOr
  have h1 : ¬ (0 : Int) ≤ Builtin.bitNot (a : Int) := by unfold Builtin.bitNot; omega
  have h2 : ¬ (0 : Int) ≤ Builtin.bitNot (b : Int) := by unfold Builtin.bitNot; omega
  have n1 : Builtin.bitNot (Builtin.bitNot (a : Int)) = (a : Int) := by unfold Builtin.bitNot; omega
  have n2 : Builtin.bitNot (Builtin.bitNot (b : Int)) = (b : Int) := by unfold Builtin.bitNot; omega
  have e : Builtin.bitAnd (Builtin.bitNot (a : Int)) (Builtin.bitNot (b : Int)) = Builtin.bitNot (((a ||| b : Nat)) : Int) := by
    unfold Builtin.bitAnd
    rw [decide_eq_false h1, decide_eq_false h2]
    simp [n1, n2]
  rw [e]
  unfold Builtin.bitNot; omega
theorem shl_nat (k : Nat) : (1 : Int) * 2 ^ ((k : Int)).toNat = ((2 ^ k : Nat) : Int) := by
  rw [Int.toNat_natCast, Int.one_mul, Int.natCast_pow]; rfl
theorem shr_nat (n k : Nat) : (n : Int) / 2 ^ ((k : Int)).toNat = ((n / 2 ^ k : Nat) : Int) := by
  rw [Int.toNat_natCast, Int.natCast_ediv, Int.natCast_pow]; rfl
theorem bit_lt {n k i : Nat} (h : n < 2 ^ k) (hi : n.testBit i = true) : i < k := by
  rcases Nat.lt_or_ge i k with q | q
  · exact q
  · rw [Nat.testBit_lt_two_pow (Nat.lt_of_lt_of_le h (Nat.pow_le_pow_right (by decide) q))] at hi
    cases hi
def bitsN (n : Nat) : List Nat := (List.range n).filter n.testBit
theorem bits_more {n k : Nat} (h : n < 2 ^ k) : ∀ d : Nat, (List.range (k + d)).filter n.testBit = (List.range k).filter n.testBit
  | 0 => rfl
  | d + 1 => by
    rw [← Nat.add_assoc, List.range_succ, List.filter_append, bits_more h d]
    have z : n.testBit (k + d) = false := Nat.testBit_lt_two_pow (Nat.lt_of_lt_of_le h (Nat.pow_le_pow_right (by decide) (by omega)))
    simp [z]
theorem bits_eq {n k : Nat} (h : n < 2 ^ k) : (List.range k).filter n.testBit = bitsN n := by
  rcases Nat.le_total k n with q | q
  · have e := bits_more h (n - k)
    rw [show k + (n - k) = n by omega] at e
    exact e.symm
  · have e := bits_more (Nat.lt_two_pow_self (n := n)) (k - n)
    rw [show n + (k - n) = k by omega] at e
    exact e
theorem mem_bits {n i : Nat} : i ∈ bitsN n ↔ n.testBit i = true := by
  unfold bitsN
  rw [List.mem_filter, List.mem_range]
  exact ⟨fun h => h.2, fun h => ⟨bit_lt Nat.lt_two_pow_self h, h⟩⟩
theorem bits_len {n k : Nat} (h : n < 2 ^ k) : (bitsN n).length ≤ k := by
  rw [← bits_eq h]
  have := List.length_filter_le n.testBit (List.range k)
  rw [List.length_range] at this
  exact this
def maskN (l : List Nat) : Nat := l.foldl (fun m w => m ||| 2 ^ w) 0
theorem maskN_from (l : List Nat) : ∀ m i, (l.foldl (fun m w => m ||| 2 ^ w) m).testBit i = (m.testBit i || decide (i ∈ l)) := by
  induction l with
  | nil => intro m i; simp
  | cons w r ih =>
    intro m i
    rw [List.foldl_cons, ih, Nat.testBit_or, Nat.testBit_two_pow]
    simp only [List.mem_cons]
    by_cases h1 : w = i <;> by_cases h2 : i ∈ r <;> simp [h1, h2, eq_comm]
theorem maskN_bit (l : List Nat) (i : Nat) : (maskN l).testBit i = decide (i ∈ l) := by
  unfold maskN
  rw [maskN_from]; simp
def bitOf (m : List Nat) (a b : Nat) : Bool := (m.getD a 0).testBit b
structure Wf (n : Nat) (m : List Nat) : Prop where
  len : m.length = n
  lt : ∀ x ∈ m, x < 2 ^ n
theorem Wf.get {n : Nat} {m : List Nat} (h : Wf n m) (a : Nat) : m.getD a 0 < 2 ^ n := by
  rw [List.getD_eq_getElem?_getD]
  cases q : m[a]? with
  | none => exact Nat.two_pow_pos n
  | some x => exact h.lt x (List.mem_of_getElem? q)
theorem Wf.ext {n : Nat} {m m' : List Nat} (h : Wf n m) (h' : Wf n m') (e : ∀ a b, a < n → b < n → bitOf m a b = bitOf m' a b) : m = m' := by
  refine List.ext_getElem? fun a => ?_
  rcases Nat.lt_or_ge a n with z | z
  · have h1 : a < m.length := by rw [h.len]; exact z
    have h2 : a < m'.length := by rw [h'.len]; exact z
    rw [List.getElem?_eq_getElem h1, List.getElem?_eq_getElem h2]
    congr 1
    refine Nat.eq_of_testBit_eq fun b => ?_
    have g1 : m.getD a 0 = m[a] := by rw [List.getD_eq_getElem?_getD, List.getElem?_eq_getElem h1]; rfl
    have g2 : m'.getD a 0 = m'[a] := by rw [List.getD_eq_getElem?_getD, List.getElem?_eq_getElem h2]; rfl
    rcases Nat.lt_or_ge b n with y | y
    · have q := e a b z y
      unfold bitOf at q
      rw [g1, g2] at q
      exact q
    · rw [Nat.testBit_lt_two_pow (Nat.lt_of_lt_of_le (h.lt _ (List.getElem_mem h1)) (Nat.pow_le_pow_right (by decide) y)), Nat.testBit_lt_two_pow (Nat.lt_of_lt_of_le (h'.lt _ (List.getElem_mem h2)) (Nat.pow_le_pow_right (by decide) y))]
  · rw [List.getElem?_eq_none (by rw [h.len]; exact z), List.getElem?_eq_none (by rw [h'.len]; exact z)]
end Mu
namespace Mu
theorem maskN_bits (n : Nat) : maskN (bitsN n) = n := Nat.eq_of_testBit_eq fun i => by
  rw [maskN_bit, Bool.eq_iff_iff, decide_eq_true_iff, mem_bits]
end Mu
namespace Mu
end Mu

namespace Mu
open PySem L2 Evl
def spN (R : List V → Hp → List Rp → Prop) : Sp := fun vs H Q _ => ∃ G rs, Ex G H ∧ R vs G rs ∧ ∀ p ws G2 H2, Gr G H G2 H2 → H p = none → G2 p = none → H2 p = some (.lst ws) → RA G2 ws rs → Q (.ref p) H2
def spD (R : List V → Hp → Rp → Prop) : Sp := fun vs H Q _ => ∃ G r, Ex G H ∧ R vs G r ∧ ∀ v G2 H2, Gr G H G2 H2 → r.p v G2 → Q v H2
theorem SpN.of {R : List V → Hp → List Rp → Prop} {vs : List V} {G : Hp} {rs : List Rp} (h : R vs G rs) : SpN (spN R) vs G rs := fun H e Q q _ => ⟨G, rs, e, h, q⟩
theorem SpD.of {R : List V → Hp → Rp → Prop} {vs : List V} {G : Hp} {r : Rp} (h : R vs G r) : SpD (spD R) vs G r := fun H e Q q _ => ⟨G, r, e, h, q⟩
section
variable {σ : L2.St} {G H : Hp} {te ta tb : TE} {t u : TT} {K : PySem.W.Frag} {D : Ends} {tu tw : TS} {v x y z : V} {r : Rp} {i : Nat}
theorem sq {t1 t2 : TS} (h : t1 { D with nx := t2 D } σ H) : tSeq t1 t2 D σ H := h
theorem nxt (h : D.nx σ H) : tNext D σ H := h
theorem et_cmp {p : Int → Int → Bool} {a b : Int} (ha : Ev ta σ G (.int a)) (hb : Ev tb σ G (.int b)) : EvT (tTest (tOp (rI0 fun i j => .bl (p i j)) ta tb)) σ G (p a b) := et_test (ev_op ha hb rv_I0)
theorem ra1 {G : Hp} {vs : List V} {r : Rp} (h : RA G vs [r]) : ∃ v, vs = [v] ∧ r.p v G := by
  cases h with
  | cons h t => cases t; exact ⟨_, rfl, h⟩
theorem ra2 {G : Hp} {vs : List V} {r r' : Rp} (h : RA G vs [r, r']) : ∃ v w, vs = [v, w] ∧ r.p v G ∧ r'.p w G := by
  cases h with
  | cons h t =>
    obtain ⟨w, e, hw⟩ := ra1 t
    exact ⟨_, w, by rw [e], h, hw⟩
theorem ra3 {G : Hp} {vs : List V} {r r' r'' : Rp} (h : RA G vs [r, r', r'']) : ∃ v w x, vs = [v, w, x] ∧ r.p v G ∧ r'.p w G ∧ r''.p x G := by
  cases h with
  | cons h t =>
    obtain ⟨w, x, e, hw⟩ := ra2 t
    exact ⟨_, w, x, by rw [e], h, hw⟩
end
section
variable {σ : L2.St} {G H : Hp} {tl : TE} {K : PySem.W.Frag} {D : Ends} {tu : TS} {j : Nat} {α : Type} {ta : TA}
theorem s_forL (l : List α) (ρ : α → Rp) (e : Ex G H) (h : EvD tl σ G (rL K (l.map ρ))) (Pv : Hp → Nat → L2.St → Hp → Prop) (h0 : ∀ G1 H1, Gr G H G1 H1 → Pv G1 0 σ H1) (hk : ∀ G1 i σ' H', Pv G1 i σ' H' → Ex G1 H')
    (hs : ∀ G1 i a x σ' H', Ex G G1 → l[i]? = some a → (ρ a).p x G1 → Pv G1 i σ' H' → tu { D with nx := Pv G1 (i + 1), ct := Pv G1 (i + 1), bk := D.nx } (σ'.set j (some x)) H') (hd : ∀ G1 σ' H', Ex G G1 → Pv G1 l.length σ' H' → D.nx σ' H') :
    tFor (iList K tl) (gName j) tu D σ H := h H e _ fun v G1 H1 g1 ⟨a, vs, hv, h1, h2⟩ => by
  subst hv
  have el : vs.length = l.length := by rw [h2.len, List.length_map]
  refine ⟨a, rfl, ⟨vs, sq_of (g1.i _ _ h1)⟩, for_list (xs := vs) (Pv G1) (h0 G1 H1 g1) (fun i σ' H' _ p => sq_of ((hk G1 i σ' H' p) _ _ h1)) (fun i x σ' H' hi p => ?_) (fun σ' H' p => hd G1 σ' H' g1.g (el ▸ p))⟩
  obtain ⟨r, hr, hx⟩ := h2.getV hi
  rw [List.getElem?_map] at hr
  cases q2 : l[i]? with
  | none => rw [q2] at hr; cases hr
  | some b =>
    rw [q2] at hr
    have hr' : ρ b = r := Option.some.inj hr
    subst hr'
    exact hs G1 i b x σ' H' g1.g q2 hx p
theorem s_forR (n : Nat) (e : Ex G H) (h : EvA ta σ G [.int (n : Int)]) (hn : n ≤ 100000) (Pv : Nat → L2.St → Hp → Prop) (h0 : ∀ H1, Ex H H1 → Pv 0 σ H1)
    (hs : ∀ (i : Nat) σ' H', i < n → Pv i σ' H' → tu { D with nx := Pv (i + 1), ct := Pv (i + 1), bk := D.nx } (σ'.set j (some (.int (i : Int)))) H') (hd : ∀ σ' H', Pv n σ' H' → D.nx σ' H') : tFor (iRng1 ta) (gName j) tu D σ H :=
  h H e _ fun H1 e1 => ⟨(n : Int), rfl, by omega, by omega, by
    rw [Int.toNat_natCast]
    refine for_range (lo := 0) (n := n) Pv (h0 H1 e1) (fun i σ' H' hi p => ?_) hd
    rw [Int.zero_add]
    exact hs i σ' H' hi p⟩
end
end Mu

namespace Mu
open PySem L2 Evl
section
variable {σ : L2.St} {G H : Hp} {te tl ta : TE} {t : TT} {K : PySem.W.Frag} {α : Type} {j : Nat} {vs : List Nat}
theorem filter_yes {l : List α} {rr : α → Rp} : (l.filter fun _ => true).map rr = l.map rr := by
  congr 1
  exact List.filter_eq_self.mpr fun _ _ => rfl
theorem en_lcL0 (l : List α) (ρ : α → Rp) (rr : α → Rp) (h : EvD tl σ G (rL K (l.map ρ))) (hz : l.length ≤ 40000) (hw : ∀ x, wipe ((wipe σ vs).set j (some x)) vs = wipe σ vs)
    (he : ∀ a x G1, a ∈ l → Ex G G1 → (ρ a).p x G1 → EvD te ((wipe σ vs).set j (some x)) G1 (rr a)) : EvN (tLc (iList K tl) (gName j) tYes te vs) σ G (l.map rr) :=
  en_is (en_lcL l ρ (fun _ => true) rr h hz hw (fun _ _ _ _ _ _ => yes_T rfl) fun a x G1 hm _ e hx => he a x G1 hm e hx) filter_yes
end
def pairsN (m : List Nat) : List (Nat × Nat) := (List.range m.length).flatMap fun a => (bitsN (m.getD a 0)).map fun b => (a, b)
section
variable (K : PySem.W.Frag) (C : Addr)
def rP (p : Nat × Nat) : Rp := rT K [nI p.1, nI p.2]
def tabF (n : Nat) (t c : Addr) : List (Str × V) := [("size", .int (n : Int)), ("masks", .ref t), ("cells", .ref c)]
def rTab (m : List Nat) : Rp := ⟨fun v H => ∃ a dx t c, v = .ref a ∧ H a = some (.ins C dx (tabF m.length t c)) ∧ (rTn K m).p (.ref t) H ∧ (rT K ((pairsN m).map (rP K))).p (.ref c) H,
  fun e ⟨a, dx, t, c, h1, h2, h3, h4⟩ => ⟨a, dx, t, c, h1, e _ _ h2, (rTn K _).mono e h3, (rT K _).mono e h4⟩⟩
def spTab : Sp := fun vs H Q _ => ∃ p dx x G rows, vs = [.ref p, x] ∧ H p = some (.ins C dx []) ∧ Ex G H ∧ G p = none ∧ (rLL K rows).p x G ∧ 1 ≤ rows.length ∧ rows.length ≤ 6 ∧ (∀ r ∈ rows, r.length ≤ 100 ∧ ∀ w ∈ r, w < rows.length) ∧
  ∀ H2 G2 t c, Ex G G2 → (∀ a o, H a = some o → a ≠ p → H2 a = some o) → Ex G2 H2 → (∀ a o, H a = some o → Mt o → G a = none → G2 a = none) → H2 p = some (.ins C dx (tabF rows.length t c)) → (rTn K (rows.map maskN)).p (.ref t) G2 → (rT K ((pairsN (rows.map maskN)).map (rP K))).p (.ref c) G2 → Q .non H2
end
section
variable {K : PySem.W.Frag} {C : Addr} {σ : L2.St} {G H : Hp} {ta te : TE} {m : List Nat}
theorem ed_tab {rows : List (List Nat)} {E : XK} (h : EvD ta σ G (rLL K rows)) (h1 : 1 ≤ rows.length) (h6 : rows.length ≤ 6) (hr : ∀ r ∈ rows, r.length ≤ 100 ∧ ∀ w ∈ r, w < rows.length) :
    EvD (tMake C (spTab K C) [] E (tCons ta tNil)) σ G (rTab K C (rows.map maskN)) := fun H e Q q => h H e _ fun v G2 H2 g hv => fun x dx hx hdx hne => by
  have ed : Ex H2 (upd (upd H2 dx (.own x)) x (.ins C dx [])) := (Ex.new hdx).trans (Ex.new (by rw [upd_ne (Ne.symm hne)]; exact hx))
  refine ⟨x, dx, v, G2, rows, rfl, upd_same, g.i.trans ed, fresh_back g.i hx, hv, h1, h6, hr, fun H3 G3 t c e3 k3 i3 n3 p3 t3 c3 => ⟨rfl, ?_⟩⟩
  have hx2 : (upd (upd H2 dx (.own x)) x (.ins C dx [])) x = some (.ins C dx []) := upd_same
  have gx : G3 x = none := n3 x _ hx2 mt_ins (fresh_back g.i hx)
  have len : (rows.map maskN).length = rows.length := List.length_map _
  refine q (.ref x) (upd G3 x (.ins C dx (tabF rows.length t c))) H3 ⟨(g.g.trans e3).trans (Ex.new gx), fun a o z => ?_, fun a o z => ?_, fun a o z tt y => ?_⟩ ⟨x, dx, t, c, rfl, by rw [len]; exact upd_same, (rTn K _).mono (Ex.new gx) t3, (rT K _).mono (Ex.new gx) c3⟩
  · have z2 := g.h a o z
    exact k3 a o (ed a o z2) (ne_of_none z2 hx)
  · by_cases c1 : a = x
    · subst c1
      rw [upd_same] at z
      rw [p3]; exact z
    · rw [upd_ne c1] at z
      exact i3 a o z
  · have z2 := g.h a o z
    rw [upd_ne (ne_of_none z2 hx)]
    exact n3 a o (ed a o z2) tt (g.n a o z tt y)
theorem tabF_masks {n : Nat} {t c : Addr} : (tabF n t c).lookup ("masks" : Str) = some (.ref t) := by
  have h1 : (("masks" : Str) == ("size" : Str)) = false := by decide +kernel
  unfold tabF
  simp [List.lookup, h1]
theorem tabF_cells {n : Nat} {t c : Addr} : (tabF n t c).lookup ("cells" : Str) = some (.ref c) := by
  have h1 : (("cells" : Str) == ("size" : Str)) = false := by decide +kernel
  have h2 : (("cells" : Str) == ("masks" : Str)) = false := by decide +kernel
  unfold tabF
  simp [List.lookup, h1, h2]
theorem ev_size (h : EvD ta σ G (rTab K C m)) (hc : Cls K C) (hn : NoAttr K C "size") : Ev (tFld K ta "size") σ G (.int (m.length : Int)) := fun H e Q q => h H e _ fun v G2 H2 g hv => by
  obtain ⟨a, dx, t, c, rfl, h2, h3, h4⟩ := hv
  exact ⟨a, C, dx, _, _, rfl, g.i _ _ h2, hc, hn, rfl, q H2 g.h⟩
theorem ed_masks (h : EvD ta σ G (rTab K C m)) (hc : Cls K C) (hn : NoAttr K C "masks") : EvD (tFld K ta "masks") σ G (rTn K m) := fun H e Q q => h H e _ fun v G2 H2 g hv => by
  obtain ⟨a, dx, t, c, rfl, h2, h3, h4⟩ := hv
  exact ⟨a, C, dx, _, .ref t, rfl, g.i _ _ h2, hc, hn, tabF_masks, q _ G2 H2 g h3⟩
theorem ed_cells (h : EvD ta σ G (rTab K C m)) (hc : Cls K C) (hn : NoAttr K C "cells") : EvD (tFld K ta "cells") σ G (rT K ((pairsN m).map (rP K))) := fun H e Q q => h H e _ fun v G2 H2 g hv => by
  obtain ⟨a, dx, t, c, rfl, h2, h3, h4⟩ := hv
  exact ⟨a, C, dx, _, .ref c, rfl, g.i _ _ h2, hc, hn, tabF_cells, q _ G2 H2 g h4⟩
end
section
variable {K : PySem.W.Frag} {C : Addr} {σ : L2.St} {G H : Hp} {ta tv : TE} {f : Str} {D : Ends} {r : Rp}
def off (p : Addr) (G : Hp) : Hp := fun a => if a = p then none else G a
theorem off_self {p : Addr} {G : Hp} : off p G p = none := by unfold off; rw [if_pos rfl]
theorem off_ne {p a : Addr} {G : Hp} (h : a ≠ p) : off p G a = G a := by unfold off; rw [if_neg h]
theorem ex_add {p : Addr} {G H : Hp} {o : HO} (e : Ex G H) (h : H p = some o) : Ex (upd G p o) H := fun a u z => by
  by_cases c : a = p
  · subst c; rw [upd_same] at z; rw [h]; exact z
  · rw [upd_ne c] at z; exact e a u z
end
section
variable {K : PySem.W.Frag} {C : Addr} {σ : L2.St} {G H : Hp} {ta tb : TE} {m : List Nat} {f : Str} {sp : Sp} {E : XK}
end
section
variable {K : PySem.W.Frag} {C : Addr} {σ : L2.St} {G H : Hp} {te tl : TE} {E : XK}
theorem masks_bits (m : List Nat) : (m.map bitsN).map maskN = m := by
  rw [List.map_map]
  exact (List.map_congr_left fun a _ => maskN_bits a).trans (List.map_id _)
theorem rows_ok {n : Nat} {m : List Nat} (w : Wf n m) (h6 : n ≤ 6) : ∀ r ∈ m.map bitsN, r.length ≤ 100 ∧ ∀ x ∈ r, x < (m.map bitsN).length := fun r hr => by
  obtain ⟨a, ha, rfl⟩ := List.mem_map.mp hr
  refine ⟨Nat.le_trans (bits_len (w.lt a ha)) (by omega), fun x hx => ?_⟩
  rw [List.length_map, w.len]
  exact bit_lt (w.lt a ha) (mem_bits.mp hx)
theorem ed_tabRows {n : Nat} {m : List Nat} (h : EvD te σ G (rLL K (m.map bitsN))) (w : Wf n m) (h1 : 1 ≤ n) (h6 : n ≤ 6) : EvD (tMake C (spTab K C) [] E (tCons te tNil)) σ G (rTab K C m) :=
  ed_is (ed_tab h (by rw [List.length_map, w.len]; exact h1) (by rw [List.length_map, w.len]; exact h6) (rows_ok w h6)) (by rw [masks_bits])
end
section
variable {K : PySem.W.Frag} {C : Addr} {σ : L2.St} {G H : Hp} {ta : TE} {m : List Nat} {sp : Sp} {E : XK}
end
end Mu

namespace Mu
open PySem L2 Evl
structure IsC (K : PySem.W.Frag) (C : Addr) : Prop where
  c : Cls K C
  a : PySem.W.findIn K (.ref C) "__class__" = some (some (.builtin "object.__class__"))
  g : PySem.W.specialIn K (.builtin "object.__class__") "__get__" = some (some (.builtin "getset_descriptor.__get__"))
  t : PySem.W.takesIn K (.builtin "object.__class__") = some true
  m : PySem.W.mroIn K C (.type "object") = some true
section
variable {K : PySem.W.Frag} {C : Addr} {σ : L2.St} {G H : Hp} {ta te : TE} {m : List Nat}
theorem ev_isi {r : Rp} {c : V} {u : Value} {b : Bool} (h : EvD ta σ G r) (hc : ClsV c u) (ht : ∀ v H, r.p v H → ∃ t, TyX K H v t ∧ PySem.W.kitOne K t u = some b) : Ev (tCB (rIsi K) (tCons ta (tCons (tC c) tNil))) σ G (.bl b) := fun H e Q q =>
  h H e _ fun v G2 H2 g hv => by
    obtain ⟨t, h1, h2⟩ := ht v H2 (r.mono g.i hv)
    exact ⟨v, c, t, u, b, rfl, hc, h1, h2, q H2 g.h⟩
theorem kit_same {t : Value} : PySem.W.kitOne K t t = some true := by unfold PySem.W.kitOne; simp
theorem ty_list {rs : List Rp} {v : V} (h : (rL K rs).p v H) : TyX K H v (.type "list") := by
  obtain ⟨a, vs, rfl, h1, _⟩ := h
  exact .base (.lst h1)
theorem ty_tup {rs : List Rp} {v : V} (h : (rT K rs).p v H) : TyX K H v (.type "tuple") := by
  obtain ⟨a, vs, rfl, h1, _⟩ := h
  rcases h1 with (h1 | ⟨o, h1⟩) | ⟨o, its, n, h1, h2, _⟩
  · exact .base (.tup h1)
  · exact .fTuple h1
  · exact .kTuple h1 h2
theorem ty_tab (c : IsC K C) {v : V} (h : (rTab K C m).p v H) : TyX K H v (.ref C) := by
  obtain ⟨a, dx, t, cc, rfl, h2, _⟩ := h
  exact .base (.ins h2 c.c c.a c.g c.t c.m)
theorem is_int {i : Int} (h : Ev ta σ G (.int i)) : Ev (tCB (rIsi K) (tCons ta (tCons (tC (.ty "int")) tNil))) σ G (.bl true) := ev_isi (Ev.d h) (.ty _) fun v H hv => ⟨_, by obtain rfl : v = V.int i := hv; exact .base (.int i), kit_same⟩
theorem is_list {rs : List Rp} (h : EvD ta σ G (rL K rs)) : Ev (tCB (rIsi K) (tCons ta (tCons (tC (.ty "list")) tNil))) σ G (.bl true) := ev_isi h (.ty _) fun v H hv => ⟨_, ty_list hv, kit_same⟩
theorem is_tup {rs : List Rp} (h : EvD ta σ G (rT K rs)) : Ev (tCB (rIsi K) (tCons ta (tCons (tC (.ty "tuple")) tNil))) σ G (.bl true) := ev_isi h (.ty _) fun v H hv => ⟨_, ty_tup hv, kit_same⟩
theorem is_tab (c : IsC K C) (h : EvD ta σ G (rTab K C m)) : Ev (tCB (rIsi K) (tCons ta (tCons (tC (.ref C)) tNil))) σ G (.bl true) := ev_isi h (.own _) fun v H hv => ⟨_, ty_tab c hv, kit_same⟩
def AsD (K : PySem.W.Frag) (r : Rp) (d : PyData) : Prop := ∀ v H, r.p v H → Dp K H v d
theorem asd_int (i : Int) : AsD K (rI i) (.int i) := fun v H h => by obtain rfl : v = V.int i := h; exact .int i
theorem asd_str (z : Str) : AsD K (rS z) (.str z) := fun v H h => by obtain rfl : v = V.str z := h; exact .str z
theorem asd_all {H : Hp} {α : Type} {ρ : α → Rp} {δ : α → PyData} (h : ∀ a, AsD K (ρ a) (δ a)) : ∀ {l : List α} {vs : List V}, RA H vs (l.map ρ) → DpAll K H vs (l.map δ)
  | [], _, .nil => .nil
  | a :: r, _, .cons q t => .cons (h a _ _ q) (asd_all h t)
theorem asd_list {α : Type} {ρ : α → Rp} {δ : α → PyData} (h : ∀ a, AsD K (ρ a) (δ a)) (l : List α) : AsD K (rL K (l.map ρ)) (.list (l.map δ)) := fun v H q => by
  obtain ⟨a, vs, rfl, h1, h2⟩ := q
  exact .lst (sq_of h1) (asd_all h h2)
theorem asd_tup {α : Type} {ρ : α → Rp} {δ : α → PyData} (h : ∀ a, AsD K (ρ a) (δ a)) (l : List α) : AsD K (rT K (l.map ρ)) (.tuple (l.map δ)) := fun v H q => by
  obtain ⟨a, vs, rfl, h1, h2⟩ := q
  exact .tup h1 (asd_all h h2)
abbrev dN (n : Nat) : PyData := .int (n : Int)
abbrev dLn (l : List Nat) : PyData := .list (l.map dN)
abbrev dTn (l : List Nat) : PyData := .tuple (l.map dN)
abbrev dLL (l : List (List Nat)) : PyData := .list (l.map dLn)
abbrev dP (p : Nat × Nat) : PyData := .tuple [.int (p.1 : Int), .int (p.2 : Int)]
theorem asd_ln (l : List Nat) : AsD K (rLn K l) (dLn l) := asd_list (fun a => asd_int _) l
theorem asd_tn (l : List Nat) : AsD K (rTn K l) (dTn l) := asd_tup (fun a => asd_int _) l
theorem asd_ll (l : List (List Nat)) : AsD K (rLL K l) (dLL l) := asd_list asd_ln l
theorem asd_p (p : Nat × Nat) : AsD K (rP K p) (dP p) := fun v H q => by
  obtain ⟨a, vs, rfl, h1, h2⟩ := q
  obtain ⟨x, y, rfl, hx, hy⟩ := ra2 h2
  obtain rfl : x = V.int (p.1 : Int) := hx
  obtain rfl : y = V.int (p.2 : Int) := hy
  exact .tup h1 (.cons (.int _) (.cons (.int _) .nil))
theorem ev_eqD {r1 r2 : Rp} {d1 d2 : PyData} {tb : TE} (ha : EvD ta σ G r1) (hb : EvD tb σ G r2) (a1 : AsD K r1 d1) (a2 : AsD K r2 d2) (s1 : SeqAt.shaped d1 = true) (s2 : SeqAt.shaped d2 = true) : Ev (tOp (rEqD K) ta tb) σ G (.bl (PyData.eqv d1 d2)) :=
  ev_op2 ha hb fun x y H hx hy Q q => ⟨d1, d2, a1 x H hx, a2 y H hy, s1, s2, q⟩
theorem ev_neD {r1 r2 : Rp} {d1 d2 : PyData} {tb : TE} (ha : EvD ta σ G r1) (hb : EvD tb σ G r2) (a1 : AsD K r1 d1) (a2 : AsD K r2 d2) (s1 : SeqAt.shaped d1 = true) (s2 : SeqAt.shaped d2 = true) : Ev (tOp (rNeD K) ta tb) σ G (.bl (!PyData.eqv d1 d2)) :=
  ev_op2 ha hb fun x y H hx hy Q q => ⟨d1, d2, a1 x H hx, a2 y H hy, s1, s2, q⟩
end
end Mu
namespace Mu
open PySem L2 Evl
def Sh (k : Nat) (d : PyData) : Prop := d.canLay0 = true ∧ d.depth ≤ k
theorem sh_all {α : Type} {δ : α → PyData} {k : Nat} (h : ∀ a, Sh k (δ a)) : ∀ l : List α, PyData.canLayAll0 (l.map δ) = true ∧ PyData.depthAll (l.map δ) ≤ k
  | [] => ⟨rfl, Nat.zero_le _⟩
  | a :: r => by
    obtain ⟨h1, h2⟩ := sh_all h r
    refine ⟨?_, ?_⟩
    · rw [List.map_cons]; unfold PyData.canLayAll0; rw [(h a).1, h1]; rfl
    · rw [List.map_cons]; unfold PyData.depthAll; exact Nat.max_le.mpr ⟨(h a).2, h2⟩
theorem sh_list {α : Type} {δ : α → PyData} {k : Nat} (h : ∀ a, Sh k (δ a)) (l : List α) : Sh (k + 1) (.list (l.map δ)) := by
  obtain ⟨h1, h2⟩ := sh_all h l
  refine ⟨by unfold PyData.canLay0; exact h1, ?_⟩
  unfold PyData.depth; omega
theorem sh_tup {α : Type} {δ : α → PyData} {k : Nat} (h : ∀ a, Sh k (δ a)) (l : List α) : Sh (k + 1) (.tuple (l.map δ)) := by
  obtain ⟨h1, h2⟩ := sh_all h l
  refine ⟨by unfold PyData.canLay0; exact h1, ?_⟩
  unfold PyData.depth; omega
theorem sh_int (i : Int) : Sh 1 (.int i) := ⟨by unfold PyData.canLay0; rfl, by unfold PyData.depth; omega⟩
theorem Sh.ok {k : Nat} {d : PyData} (h : Sh k d) (hk : k ≤ 64) : SeqAt.shaped d = true := by
  unfold SeqAt.shaped
  rw [h.1, decide_eq_true (Nat.le_trans h.2 hk)]; rfl
theorem Sh.mono {k j : Nat} {d : PyData} (h : Sh k d) (hk : k ≤ j) : Sh j d := ⟨h.1, Nat.le_trans h.2 hk⟩
theorem sh_ln (l : List Nat) : Sh 2 (dLn l) := sh_list (fun a => sh_int _) l
theorem sh_tn (l : List Nat) : Sh 2 (dTn l) := sh_tup (fun a => sh_int _) l
theorem sh_ll (l : List (List Nat)) : Sh 3 (dLL l) := sh_list sh_ln l
theorem sh_p (p : Nat × Nat) : Sh 2 (dP p) := sh_tup (fun a : Nat => sh_int (a : Int)) [p.1, p.2]
theorem eqv_all {α : Type} [DecidableEq α] {δ : α → PyData} (h : ∀ a b, PyData.eqv (δ a) (δ b) = decide (a = b)) : ∀ l m : List α, PyData.eqvAll (l.map δ) (m.map δ) = decide (l = m)
  | [], [] => by simp [PyData.eqvAll]
  | [], _ :: _ => by simp [PyData.eqvAll]
  | _ :: _, [] => by simp [PyData.eqvAll]
  | a :: l, b :: m => by
    rw [List.map_cons, List.map_cons, PyData.eqvAll, h a b, eqv_all h l m, Bool.eq_iff_iff]
    simp
theorem eqv_n (a b : Nat) : PyData.eqv (dN a) (dN b) = decide (a = b) := by
  rw [Bool.eq_iff_iff]
  simp [PyData.eqv]
  omega
theorem eqv_ln (a b : List Nat) : PyData.eqv (dLn a) (dLn b) = decide (a = b) := by
  show PyData.eqv (.list _) (.list _) = _
  rw [PyData.eqv]; exact eqv_all eqv_n a b
theorem eqv_tn (a b : List Nat) : PyData.eqv (dTn a) (dTn b) = decide (a = b) := by
  show PyData.eqv (.tuple _) (.tuple _) = _
  rw [PyData.eqv]; exact eqv_all eqv_n a b
theorem eqv_ll (a b : List (List Nat)) : PyData.eqv (dLL a) (dLL b) = decide (a = b) := by
  show PyData.eqv (.list _) (.list _) = _
  rw [PyData.eqv]; exact eqv_all eqv_ln a b
theorem eqv_p (a b : Nat × Nat) : PyData.eqv (dP a) (dP b) = decide (a = b) := by
  obtain ⟨a1, a2⟩ := a
  obtain ⟨b1, b2⟩ := b
  show PyData.eqv (.tuple _) (.tuple _) = _
  rw [PyData.eqv, Bool.eq_iff_iff]
  simp [PyData.eqvAll, PyData.eqv]
  omega
section
variable {K : PySem.W.Frag} {σ : L2.St} {G : Hp} {ta tb : TE}
theorem ints_flat (l : List Nat) : (l.map fun (n : Nat) => V.int (n : Int)).all flatV = true := by
  rw [List.all_map]
  exact List.all_eq_true.mpr fun _ _ => rfl
theorem inV_nat (w : Nat) (l : List Nat) : inV (.int (w : Int)) (l.map fun (n : Nat) => V.int (n : Int)) = decide (w ∈ l) := by
  unfold inV
  rw [List.any_map, Bool.eq_iff_iff, List.any_eq_true, decide_eq_true_iff]
  constructor
  · rintro ⟨x, hx, h⟩
    have : x = w := by
      have h2 : eqV (.int (x : Int)) (.int (w : Int)) = true := h
      simp [eqV] at h2
      omega
    rw [← this]; exact hx
  · intro h
    exact ⟨w, h, by simp [eqV]⟩
theorem ev_inLn {l : List Nat} {w : Nat} {neg : Bool} (ha : Ev ta σ G (.int (w : Int))) (hb : EvD tb σ G (rLn K l)) : Ev (tOp (rIn K neg) ta tb) σ G (.bl (if neg then !decide (w ∈ l) else decide (w ∈ l))) :=
  ev_op2 (Ev.d ha) hb fun x y H hx hy Q q => by
    obtain rfl : x = V.int (w : Int) := hx
    obtain ⟨a, vs, rfl, h1, h2⟩ := hy
    have e := ra_nats_eq h2
    subst e
    exact ⟨a, _, rfl, .inl (sq_of h1), rfl, ints_flat l, by rw [inV_nat]; exact q⟩
end
end Mu

namespace Mu
open PySem L2 Evl
structure Box (K : PySem.W.Frag) (G H : Hp) (b : Addr) : Prop where
  ex : ∃ (c : Addr) (cells : List Int) (i x y : Int), H b = some (.lst [.ref c, .int i, .int x, .int y]) ∧ G c = some (.lst (cells.map V.int)) ∧ (∀ z ∈ cells, 0 ≤ z) ∧ 0 ≤ i ∧ 0 ≤ x ∧ 0 ≤ y ∧ y < 2147483647
theorem Box.mono {K : PySem.W.Frag} {G G' H H' : Hp} {b : Addr} (h : Box K G H b) (g : Ex G G') (e : Ex H H') : Box K G' H' b := by
  obtain ⟨c, cells, i, x, y, h1, h2, h3⟩ := h.ex
  exact ⟨c, cells, i, x, y, e _ _ h1, g _ _ h2, h3⟩
theorem Box.mono' {K : PySem.W.Frag} {G G' H H' : Hp} {b : Addr} (h : Box K G H b) (g : Ex G G') (e : ∀ o, H b = some o → H' b = some o) : Box K G' H' b := by
  obtain ⟨c, cells, i, x, y, h1, h2, h3⟩ := h.ex
  exact ⟨c, cells, i, x, y, e _ h1, g _ _ h2, h3⟩
theorem Box.at_ {K : PySem.W.Frag} {G H : Hp} {b : Addr} (h : Box K G H b) : ∃ o, H b = some o ∧ Mt o := by
  obtain ⟨c, cells, i, x, y, h1, _⟩ := h.ex
  exact ⟨_, h1, mt_lst⟩
structure GrB (b : Addr) (G H G2 H2 : Hp) : Prop where
  g : Ex G G2
  h : ∀ a o, H a = some o → a ≠ b → H2 a = some o
  i : Ex G2 H2
  n : ∀ a o, H a = some o → Mt o → G a = none → G2 a = none
theorem Gr.b {b : Addr} {G H G2 H2 : Hp} (g : Gr G H G2 H2) : GrB b G H G2 H2 := ⟨g.g, fun a o z _ => g.h a o z, g.i, g.n⟩
theorem GrB.refl {b : Addr} {G H : Hp} (e : Ex G H) : GrB b G H G H := (Gr.refl e).b
theorem GrB.trans {b : Addr} {G H G2 H2 G3 H3 : Hp} (gb : G b = none) (hb : ∃ o, H b = some o ∧ Mt o) (a : GrB b G H G2 H2) (c : GrB b G2 H2 G3 H3) (hb2 : ∃ o, H2 b = some o ∧ Mt o) : GrB b G H G3 H3 :=
  ⟨a.g.trans c.g, fun x o z n => c.h x o (a.h x o z n) n, c.i, fun x o z t y => by
    have y2 := a.n x o z t y
    by_cases q : x = b
    · subst q
      obtain ⟨o2, z2, t2⟩ := hb2
      exact c.n x o2 z2 t2 y2
    · exact c.n x o (a.h x o z q) t y2⟩
theorem GrB.out {b : Addr} {G H G2 H2 : Hp} (a : GrB b G H G2 H2) (gb : G b = none) (hb : ∃ o, H b = some o ∧ Mt o) : G2 b = none := by
  obtain ⟨o, z, t⟩ := hb
  exact a.n b o z t gb
theorem GrB.more {b : Addr} {G H G2 H2 H3 : Hp} (a : GrB b G H G2 H2) (e : Ex H2 H3) : GrB b G H G2 H3 := ⟨a.g, fun x o z n => e x o (a.h x o z n), a.i.trans e, a.n⟩
theorem GrB.all {b : Addr} {G H G2 H2 : Hp} (a : GrB b G H G2 H2) : Ex (off b H) H2 := fun x o z => by
  by_cases q : x = b
  · subst q; rw [off_self] at z; cases z
  · rw [off_ne q] at z; exact a.h x o z q

section
variable (K : PySem.W.Frag)
def EvB (te : TE) (σ : L2.St) (b : Addr) (G : Hp) (P : Rp → Prop) : Prop := ∀ H, Ex G H → G b = none → Box K G H b → ∀ Q : VK, (∀ r v G2 H2, P r → GrB b G H G2 H2 → Box K G2 H2 b → r.p v G2 → Q v H2) → te σ H Q
def EvBN (te : TE) (σ : L2.St) (b : Addr) (G : Hp) (P : List Rp → Prop) : Prop := ∀ H, Ex G H → G b = none → Box K G H b → ∀ Q : VK, (∀ rs p vs G2 H2, P rs → GrB b G H G2 H2 → Box K G2 H2 b → H p = none → G2 p = none → H2 p = some (.lst vs) → RA G2 vs rs → Q (.ref p) H2) → te σ H Q
def EvTB (tt : TT) (σ : L2.St) (b : Addr) (G : Hp) (P : Bool → Prop) : Prop := ∀ H, Ex G H → G b = none → Box K G H b → ∀ Q : Bool → Hp → Prop, (∀ c G2 H2, P c → GrB b G H G2 H2 → Box K G2 H2 b → Q c H2) → tt σ H Q
def spBN (R : List V → Hp → (List Rp → Prop) → Prop) : Sp := fun vs H Q _ => ∃ G b ws P, vs = .ref b :: ws ∧ Ex G H ∧ G b = none ∧ Box K G H b ∧ R ws G P ∧ ∀ rs p vs G2 H2, P rs → GrB b G H G2 H2 → Box K G2 H2 b → H p = none → G2 p = none → H2 p = some (.lst vs) → RA G2 vs rs → Q (.ref p) H2
def PN (n : Nat) : Rp → Prop := fun r => ∃ d : Nat, d < n ∧ r = nI d
def spT : Sp := fun vs H Q _ => ∃ G b m, vs = [.ref b, .int ((m : Nat) : Int)] ∧ Ex G H ∧ G b = none ∧ Box K G H b ∧ 0 < m ∧ m < 2 ^ 30 ∧ ∀ (d : Nat) H2, d < m → (∀ a o, H a = some o → a ≠ b → H2 a = some o) → (∀ G', Box K G' H b → Box K G' H2 b) → Q (.int (d : Int)) H2
def EvBI (te : TE) (σ : L2.St) (b : Addr) (G : Hp) (PV : V → Prop) : Prop := ∀ H, Ex G H → G b = none → Box K G H b → ∀ Q : VK, (∀ v H2, PV v → (∀ a o, H a = some o → a ≠ b → H2 a = some o) → (∀ G', Box K G' H b → Box K G' H2 b) → Q v H2) → te σ H Q
end
section
variable {K : PySem.W.Frag} {σ : L2.St} {b : Addr} {G H : Hp} {te ta tb : TE} {P P1 : Rp → Prop} {D : Ends} {tu tw : TS} {i i0 : Nat} {E : XK}
theorem EvB.imp {P' : Rp → Prop} (h : EvB K te σ b G P) (hp : ∀ r, P r → P' r) : EvB K te σ b G P' := fun H e gb hb Q q => h H e gb hb Q fun r v G2 H2 p => q r v G2 H2 (hp r p)
theorem EvBN.d {P : List Rp → Prop} (h : EvBN K te σ b G P) : EvB K te σ b G (fun r => ∃ rs, P rs ∧ r = rL K rs) := fun H e gb hb Q q => h H e gb hb Q fun rs p vs G2 H2 hP g hb2 hp gp h2 ra =>
  q (rL K rs) (.ref p) (upd G2 p (.lst vs)) H2 ⟨rs, hP, rfl⟩ ⟨g.g.trans (Ex.new gp), g.h, ex_add g.i h2, fun a o z t y => by rw [upd_ne (ne_of_none z hp)]; exact g.n a o z t y⟩ (hb2.mono (Ex.new gp) (Ex.refl _)) ⟨p, vs, rfl, upd_same, ra.mono (Ex.new gp)⟩
theorem EvBI.eb {PV : V → Prop} (h : EvBI K te σ b G PV) : EvB K te σ b G (fun r => ∃ v, PV v ∧ r = rV v) := fun H e gb hb Q q => h H e gb hb Q fun v H2 p k s => q (rV v) v G H2 ⟨v, p, rfl⟩ ⟨Ex.refl G, k, fun a o z => k a o (e a o z) (fun q => by subst q; rw [gb] at z; cases z), fun _ _ _ _ z => z⟩ (s G hb) rfl
theorem ebi_take {m : Nat} (hv : σ[i0]? = some (some (.ref b))) (h : Ev te σ G (.int (m : Int))) (h0 : 0 < m) (h1 : m < 2 ^ 30) : EvBI K (tCall (spT K) [] E (tCons (tVar i0) (tCons te tNil))) σ b G (fun v => ∃ d : Nat, d < m ∧ v = .int (d : Int)) := fun H e gb hb Q q =>
  ⟨.ref b, hv, h H e _ fun H2 e2 => by
    show spT K (([V.ref b, V.int (m : Int)]) ++ []) H2 Q E
    rw [List.append_nil]
    refine ⟨G, b, m, rfl, e.trans e2, gb, hb.mono (Ex.refl G) e2, h0, h1, fun d H3 hd k s => q _ H3 ⟨d, hd, rfl⟩ (fun a o z n => k a o (e2 a o z) n) fun G' hb' => s G' (hb'.mono (Ex.refl G') e2)⟩⟩
theorem eb_take {m : Nat} (hv : σ[i0]? = some (some (.ref b))) (h : Ev te σ G (.int (m : Int))) (h0 : 0 < m) (h1 : m < 2 ^ 30) : EvB K (tCall (spT K) [] E (tCons (tVar i0) (tCons te tNil))) σ b G (PN m) :=
  EvB.imp (EvBI.eb (ebi_take hv h h0 h1)) fun r ⟨v, ⟨d, hd, hv⟩, hr⟩ => ⟨d, hd, by rw [hr, hv]⟩
end
section
variable {K : PySem.W.Frag} {σ : L2.St} {G H : Hp} {te ta tb : TE} {tl th : TO}
theorem RA.drop {H : Hp} : ∀ {vs : List V} {rs : List Rp} (n : Nat), RA H vs rs → RA H (vs.drop n) (rs.drop n)
  | _, _, 0, h => h
  | _, _, _ + 1, .nil => .nil
  | _, _, n + 1, .cons _ t => RA.drop n t
theorem RA.take {H : Hp} : ∀ {vs : List V} {rs : List Rp} (n : Nat), RA H vs rs → RA H (vs.take n) (rs.take n)
  | _, _, 0, _ => .nil
  | _, _, _ + 1, .nil => .nil
  | _, _, n + 1, .cons h t => .cons h (RA.take n t)
def cutR {α : Type} (xs : List α) (lo hi : Option Int) : List α := (xs.drop (HT.sIx xs.length 0 lo)).take (HT.sIx xs.length xs.length hi - HT.sIx xs.length 0 lo)
theorem cutR_map {α β : Type} (f : α → β) (l : List α) (lo hi : Option Int) : cutR (l.map f) lo hi = (cutR l lo hi).map f := by
  unfold cutR
  rw [List.length_map, List.map_take, List.map_drop]
theorem en_slL {rs : List Rp} {lo hi : Option Int} (h : EvD te σ G (rLs K rs)) (h1 : ∀ G', Ex G G' → EvO tl σ G' lo) (h2 : ∀ G', Ex G G' → EvO th σ G' hi) : EvN (tSl (rSlL K) te tl th) σ G (cutR rs lo hi) := fun H e Q q =>
  h H e _ fun v G2 H2 g hv => by
    obtain ⟨a, vs, rfl, s1, ra⟩ := hv
    refine h1 G2 g.g H2 g.i _ fun H3 e3 => h2 G2 g.g H3 (g.i.trans e3) _ fun H4 e4 => ?_
    refine ⟨a, vs, rfl, ex_l ((g.i.trans e3).trans e4) s1, fun p hp => ?_⟩
    have gg := (g.more e3).more e4
    refine q p (cutV vs lo hi) G2 _ (gg.more (Ex.new hp)) (fresh_back gg.h hp) (fresh_back gg.i hp) upd_same ?_
    unfold cutV cutR
    rw [ra.len]
    exact (ra.drop _).take _
theorem ra_ints_eq {H : Hp} : ∀ {l : List Int} {vs : List V}, RA H vs (l.map rI) → vs = l.map V.int
  | [], _, .nil => rfl
  | n :: r, _, .cons h t => by
    have e1 := ra_ints_eq (l := r) t
    have e2 : _ = V.int n := h
    rw [e1, e2]; rfl
theorem ra_ints {H : Hp} : ∀ {l : List Int}, RA H (l.map V.int) (l.map rI)
  | [] => .nil
  | _ :: r => .cons rfl (ra_ints (l := r))
def spBoxMk (K : PySem.W.Frag) : Sp := fun vs H Q _ => ∃ (a : Addr) (ns : List Int), vs = [.ref a] ∧ SqL K H a (ns.map V.int) ∧ ns.length ≤ 63 ∧ ∀ b G2 H2, Ex H G2 → Ex G2 H2 → H b = none → G2 b = none → Box K G2 H2 b → Q (.ref b) H2
theorem ev_abs {i : Int} (h : Ev te σ G (.int i)) : Ev (tCB (fun xs H Q => ∃ i, xs = [.int i] ∧ Q (.int (if i < 0 then -i else i)) H) (tCons te tNil)) σ G (.int (if i < 0 then -i else i)) := fun H e Q q => h H e _ fun H2 e2 => ⟨i, rfl, q H2 e2⟩
theorem ev_int {i : Int} (h : Ev te σ G (.int i)) : Ev (tCB (fun xs H Q => (∃ i, xs = [.int i] ∧ Q (.int i) H) ∨ ∃ k, xs = [.bl k] ∧ Q (.int (if k then 1 else 0)) H) (tCons te tNil)) σ G (.int i) := fun H e Q q => h H e _ fun H2 e2 => .inl ⟨i, rfl, q H2 e2⟩
end
section
variable {K : PySem.W.Frag} {σ : L2.St} {b p : Addr} {G H : Hp} {te ta tb : TE} {D : Ends}
end
theorem GrB.fresh {b p : Addr} {G H G2 H2 : Hp} (g : GrB b G H G2 H2) (hb2 : ∃ o, H2 b = some o ∧ Mt o) (hp : H2 p = none) : H p = none ∧ p ≠ b := by
  have hpb : p ≠ b := fun z => by
    subst z
    obtain ⟨o, z2, _⟩ := hb2
    rw [z2] at hp; cases hp
  refine ⟨?_, hpb⟩
  cases z : H p with
  | none => rfl
  | some o => rw [g.h p o z hpb] at hp; cases hp
section
variable {K : PySem.W.Frag} {σ : L2.St} {G H : Hp} {te ta tb tf : TE} {C : Addr} {m : List Nat} {sp : Sp} {E : XK}
theorem en_cat {rs ss : List Rp} (ha : EvD ta σ G (rL K rs)) (hb : EvD tb σ G (rL K ss)) (hz : rs.length + ss.length ≤ 100000) : EvN (tOp rCat ta tb) σ G (rs ++ ss) := en_op ha hb fun x y G2 H e1 e2 hx hy Q q => by
  obtain ⟨a, vs, rfl, h1, h2⟩ := hx
  obtain ⟨a', vs', rfl, h1', h2'⟩ := hy
  refine ⟨a, a', vs, vs', rfl, rfl, e2 _ _ h1, e2 _ _ h1', sz_of (by rw [h2.len, h2'.len]; exact hz), fun p hp => ?_⟩
  exact q p _ G2 _ ((Gr.refl e2).more (Ex.new hp)) hp (fresh_back e2 hp) upd_same (h2.append h2')
end
section
variable {K : PySem.W.Frag} {σ : L2.St} {b : Addr} {G H : Hp} {te ta tb : TE} {D : Ends} {tu tw : TS}
end
section
variable {K : PySem.W.Frag} {σ : L2.St} {b : Addr} {G H : Hp} {te : TE} {E : XK} {i0 : Nat}
end
end Mu

namespace Mu
open PySem PySem.Spec PyProof.Rows L2 Evl
section
variable {X : Cx} (K : PySem.W.Frag)
end
section
variable {K : PySem.W.Frag} {σ : L2.St} {G H : Hp} {ta tb : TE}
theorem any_p (p : Nat × Nat) (l : List (Nat × Nat)) : ((l.map dP).any fun z => PyData.eqv z (dP p)) = decide (p ∈ l) := by
  rw [List.any_map, Bool.eq_iff_iff, List.any_eq_true, decide_eq_true_iff]
  constructor
  · rintro ⟨x, hx, h⟩
    have h2 : PyData.eqv (dP x) (dP p) = true := h
    rw [eqv_p] at h2
    rw [← of_decide_eq_true h2]; exact hx
  · intro h
    exact ⟨p, h, by show PyData.eqv (dP p) (dP p) = true; rw [eqv_p]; simp⟩
theorem ev_notInP {p : Nat × Nat} {l : List (Nat × Nat)} (ha : EvD ta σ G (rP K p)) (hb : EvD tb σ G (rL K (l.map (rP K)))) : Ev (tOp (rNotInD K) ta tb) σ G (.bl (!decide (p ∈ l))) :=
  ev_op2 ha hb fun x y H hx hy Q q => ⟨dP p, l.map dP, asd_p p x H hx, asd_list asd_p l y H hy, (sh_p p).ok (by decide), (sh_list sh_p l).ok (by decide), by rw [any_p]; exact q⟩
theorem ev_inP {p : Nat × Nat} {l : List (Nat × Nat)} (ha : EvD ta σ G (rP K p)) (hb : EvD tb σ G (rL K (l.map (rP K)))) : Ev (tOp (rInD K) ta tb) σ G (.bl (decide (p ∈ l))) :=
  ev_op2 ha hb fun x y H hx hy Q q => ⟨dP p, l.map dP, asd_p p x H hx, asd_list asd_p l y H hy, (sh_p p).ok (by decide), (sh_list sh_p l).ok (by decide), by rw [any_p]; exact q⟩
theorem ev_isB {a b : Bool} (ha : Ev ta σ G (.bl a)) (hb : Ev tb σ G (.bl b)) : Ev (tOp rIsB ta tb) σ G (.bl (decide (a = b))) :=
  ev_op2 (Ev.d ha) (Ev.d hb) fun x y H hx hy Q q => ⟨a, b, hx, hy, q⟩
theorem ev_isNB {a b : Bool} (ha : Ev ta σ G (.bl a)) (hb : Ev tb σ G (.bl b)) : Ev (tOp rNotB ta tb) σ G (.bl (!decide (a = b))) :=
  ev_op2 (Ev.d ha) (Ev.d hb) fun x y H hx hy Q q => ⟨a, b, hx, hy, q⟩
theorem Ev.is {x y : V} {te : TE} (h : Ev te σ G x) (e : x = y) : Ev te σ G y := e ▸ h
end
theorem s_box {K : PySem.W.Frag} {σ : L2.St} {H : Hp} {D : Ends} {E : XK} {a : Addr} {ns : List Int} {i i0 : Nat} (hv : σ[i0]? = some (some (.ref a))) (hS : SqL K H a (ns.map V.int)) (hl : ns.length ≤ 63) (k : ∀ b G2 H2, Ex H G2 → Ex G2 H2 → H b = none → G2 b = none → Box K G2 H2 b → D.nx (σ.set i (some (.ref b))) H2) : tAsg (tCall (spBoxMk K) [] E (tCons (tVar i0) tNil)) (gName i) D σ H :=
  ⟨.ref a, hv, a, ns, rfl, hS, hl, k⟩
section
variable {X : Cx}
end
end Mu

namespace Mu
open PySem PySem.Spec PyProof.Rows L2 Evl
abbrev Ctx := List (Option Rp)
def Sl (G : Hp) (o : Option V) (r : Option Rp) : Prop := ∀ q, r = some q → ∃ v, o = some v ∧ q.p v G
abbrev En (σ : L2.St) (G : Hp) (Γ : Ctx) : Prop := Paired (fun o r => Sl G o r) σ Γ
section
variable {σ : L2.St} {G G' : Hp} {Γ Γ' : Ctx} {r : Rp} {v : V} {i : Nat}
theorem Sl.mono (e : Ex G G') {o : Option V} {q : Option Rp} (h : Sl G o q) : Sl G' o q := fun x hx => by
  obtain ⟨v, h1, h2⟩ := h x hx
  exact ⟨v, h1, x.mono e h2⟩
theorem En.mono (e : Ex G G') (h : En σ G Γ) : En σ G' Γ := Paired.mono (fun _ _ z => Sl.mono e z) h
theorem En.get : ∀ {σ : L2.St} {Γ : Ctx} {i : Nat}, En σ G Γ → Γ[i]? = some (some r) → ∃ v, σ[i]? = some (some v) ∧ r.p v G
  | _, _, _, .nil, h => by simp at h
  | _, _, 0, .cons h _, e => by
    simp at e
    obtain ⟨v, h1, h2⟩ := h r e
    exact ⟨v, by simp [h1], h2⟩
  | _, _, i + 1, .cons _ t, e => by
    obtain ⟨v, h1, h2⟩ := En.get (i := i) t (by simpa using e)
    exact ⟨v, by simpa using h1, h2⟩
theorem En.set (q : r.p v G) : ∀ {σ : L2.St} {Γ : Ctx} (i : Nat), En σ G Γ → En (σ.set i (some v)) G (Γ.set i (some r))
  | _, _, _, .nil => .nil
  | _, _, 0, .cons _ t => .cons (fun x hx => ⟨v, rfl, by cases hx; exact q⟩) t
  | _, _, i + 1, .cons h t => .cons h (En.set q i t)
theorem En.wipe1 : ∀ {σ : L2.St} {Γ : Ctx} (i : Nat), En σ G Γ → En (σ.set i none) G (Γ.set i none)
  | _, _, _, .nil => .nil
  | _, _, 0, .cons _ t => .cons (fun x hx => nomatch hx) t
  | _, _, i + 1, .cons h t => .cons h (En.wipe1 i t)
def wipeC (Γ : Ctx) : List Nat → Ctx
  | [] => Γ
  | v :: vs => (wipeC Γ vs).set v none
theorem En.wipe (h : En σ G Γ) : ∀ vs : List Nat, En (wipe σ vs) G (wipeC Γ vs)
  | [] => h
  | v :: vs => (En.wipe h vs).wipe1 v
abbrev Sub (Γ Γ' : Ctx) : Prop := Paired (fun (a b : Option Rp) => b = none ∨ a = b) Γ Γ'
theorem En.weak : ∀ {σ : L2.St} {Γ Γ' : Ctx}, En σ G Γ → Sub Γ Γ' → En σ G Γ'
  | _, _, _, .nil, .nil => .nil
  | _, _, _, .cons h t, .cons q u => .cons (fun x hx => by
      rcases q with q | q
      · rw [q] at hx; cases hx
      · exact h x (q.trans hx)) (En.weak t u)
theorem En.start (N : List Str) {vs : List V} {rs : List Rp} (h : RA G vs rs) (hn : N.length - vs.length = k) : En (L2.start N vs) G (rs.map some ++ List.replicate k none) := by
  unfold L2.start
  rw [hn]
  have h2 : En (List.replicate k none) G (List.replicate k none) := by
    clear hn
    induction k with
    | zero => exact .nil
    | succ k ih => exact .cons (fun x hx => nomatch hx) ih
  clear hn
  induction h with
  | nil => exact h2
  | cons a t ih => exact .cons (fun x hx => ⟨_, rfl, by cases hx; exact a⟩) ih
theorem wipe_in {x : V} {j : Nat} : ∀ {vs : List Nat} (τ : L2.St), j ∈ vs → wipe (τ.set j (some x)) vs = wipe τ vs
  | [], _, h => nomatch h
  | u :: vs, τ, h => by
    unfold wipe
    by_cases c : j ∈ vs
    · rw [wipe_in τ c]
    · have e : j = u := by
        rcases List.mem_cons.mp h with q | q
        · exact q
        · exact absurd q c
      subst e
      rw [show ∀ (vs : List Nat), j ∉ vs → wipe (τ.set j (some x)) vs = (wipe τ vs).set j (some x) from fun vs => by
        induction vs with
        | nil => intro _; rfl
        | cons w ws ih =>
          intro hn
          unfold wipe
          rw [ih fun z => hn (List.mem_cons_of_mem _ z), List.set_comm _ _ (fun z => hn (by rw [z]; exact List.mem_cons_self))]]
      · rw [List.set_set]
      · exact c
theorem wipe_idem (σ : L2.St) : ∀ vs : List Nat, wipe (wipe σ vs) vs = wipe σ vs := by
  have key : ∀ (vs : List Nat) (τ : L2.St), (∀ i ∈ vs, ∀ x, τ[i]? ≠ some (some x)) → wipe τ vs = τ := fun vs => by
    induction vs with
    | nil => intro τ _; rfl
    | cons u vs ih =>
      intro τ h
      unfold wipe
      rw [ih τ fun i hi => h i (List.mem_cons_of_mem _ hi)]
      apply List.ext_getElem?
      intro i
      by_cases c : u = i
      · subst c
        rw [List.getElem?_set_self']
        cases q : τ[u]? with
        | none => rfl
        | some o =>
          cases o with
          | none => rfl
          | some x => exact absurd q (h u List.mem_cons_self x)
      · rw [List.getElem?_set_ne c]
  intro vs
  exact key vs _ fun i hi x hx => (wipe_some hx).2 hi
theorem wipe_turn (σ : L2.St) {vs : List Nat} {j : Nat} (h : j ∈ vs) (x : V) : wipe ((wipe σ vs).set j (some x)) vs = wipe σ vs := by rw [wipe_in _ h, wipe_idem]
end
structure Re where
  own : Bool
  ft : List Addr
  p : Hp → Hp → Prop
  mono : ∀ {G G' H : Hp}, Ex G G' → p G H → p G' H
  loc : ∀ {G H H' : Hp}, (∀ a ∈ ft, ∀ o, H a = some o → H' a = some o) → p G H → p G H'
  at_ : ∀ {G H : Hp}, p G H → ∀ a ∈ ft, ∃ o, H a = some o ∧ Mt o
def feet (M : List Re) : List Addr := M.flatMap Re.ft
theorem mem_feet {M : List Re} {r : Re} {a : Addr} (h : r ∈ M) (ha : a ∈ r.ft) : a ∈ feet M := List.mem_flatMap.mpr ⟨r, h, ha⟩
def lstR (p : Addr) (rs : List Rp) : Re where
  own := true
  ft := [p]
  p := fun G H => ∃ ws, H p = some (.lst ws) ∧ RA G ws rs
  mono := fun e ⟨ws, h1, h2⟩ => ⟨ws, h1, h2.mono e⟩
  loc := fun k ⟨ws, h1, h2⟩ => ⟨ws, k p (List.mem_singleton.mpr rfl) _ h1, h2⟩
  at_ := fun ⟨ws, h1, _⟩ a ha => by rw [List.mem_singleton.mp ha]; exact ⟨_, h1, fun _ z => nomatch z⟩
def boxR (K : PySem.W.Frag) (b : Addr) : Re where
  own := false
  ft := [b]
  p := fun G H => Box K G H b
  mono := fun e h => h.mono e (Ex.refl _)
  loc := fun k h => h.mono' (Ex.refl _) fun o z => k b (List.mem_singleton.mpr rfl) o z
  at_ := fun h a ha => by rw [List.mem_singleton.mp ha]; exact h.at_
structure Ba where
  G0 : Hp
  H0 : Hp
  F : List Addr
  Gl : Hp
structure Ok (B : Ba) (G H : Hp) (M : List Re) : Prop where
  g : Ex B.G0 G
  l : Ex B.Gl G
  h : ∀ a o, B.H0 a = some o → a ∉ B.F → H a = some o
  i : Ex G H
  n : ∀ a o, B.H0 a = some o → Mt o → B.G0 a = none → G a = none
  k : ∀ a ∈ B.F, ∃ o, H a = some o ∧ Mt o
  m : ∀ r ∈ M, r.p G H
  z : ∀ a ∈ feet M, G a = none
  d : (feet M).Nodup
  f : ∀ r ∈ M, ∀ a ∈ r.ft, B.H0 a = none ∨ (r.own = false ∧ a ∈ B.F)
section
variable {B : Ba} {G H G2 H2 : Hp} {M : List Re} {R R' : Re} {k : Nat}
theorem Ok.gr (o : Ok B G H M) (g : Gr G H G2 H2) : Ok B G2 H2 M where
  g := o.g.trans g.g
  l := o.l.trans g.g
  h := fun a u z n => g.h a u (o.h a u z n)
  i := g.i
  n := fun a u z t y => by
    by_cases c : a ∈ B.F
    · obtain ⟨u2, z2, t2⟩ := o.k a c
      exact g.n a u2 z2 t2 (o.n a u z t y)
    · exact g.n a u (o.h a u z c) t (o.n a u z t y)
  k := fun a c => by
    obtain ⟨u, z, t⟩ := o.k a c
    exact ⟨u, g.h a u z, t⟩
  m := fun r hr => r.loc (fun a _ u z => g.h a u z) (r.mono g.g (o.m r hr))
  z := fun a ha => by
    obtain ⟨r, hr, hf⟩ := List.mem_flatMap.mp ha
    obtain ⟨u, z, t⟩ := r.at_ (o.m r hr) a hf
    exact g.n a u z t (o.z a ha)
  d := o.d
  f := o.f
theorem Ok.ex (o : Ok B G H M) (e : Ex H H2) : Ok B G H2 M := o.gr ((Gr.refl o.i).more e)
theorem feet_set {M : List Re} {k : Nat} (hk : M[k]? = some R) (hf : R'.ft = R.ft) : feet (M.set k R') = feet M := by
  induction M generalizing k with
  | nil => rfl
  | cons a M ih =>
    cases k with
    | zero =>
      simp at hk
      subst hk
      show R'.ft ++ _ = a.ft ++ _
      rw [hf]
    | succ k =>
      show a.ft ++ feet (M.set k R') = a.ft ++ feet M
      rw [ih (by simpa using hk)]
theorem feet_apart {M : List Re} (hd : (feet M).Nodup) : ∀ {k : Nat} {R r : Re}, M[k]? = some R → r ∈ M.eraseIdx k → ∀ a ∈ r.ft, a ∉ R.ft := by
  induction M with
  | nil => intro k R r h; simp at h
  | cons b M ih =>
    intro k R r hk hr a ha hR
    have hd' : (b.ft ++ feet M).Nodup := hd
    have h3 := List.nodup_append.mp hd'
    cases k with
    | zero =>
      simp at hk hr
      subst hk
      exact h3.2.2 a hR a (mem_feet hr ha) rfl
    | succ k =>
      simp at hk hr
      have hRm : R ∈ M := List.mem_of_getElem? hk
      rcases hr with hr | hr
      · subst hr
        exact h3.2.2 a ha a (mem_feet hRm hR) rfl
      · exact ih h3.2.1 hk hr a ha hR
theorem mem_set_or {M : List Re} : ∀ {k : Nat} {R' r : Re}, r ∈ M.set k R' → r = R' ∨ r ∈ M.eraseIdx k := by
  induction M with
  | nil => intro k R' r h; simp at h
  | cons b M ih =>
    intro k R' r h
    cases k with
    | zero =>
      simp at h ⊢
      exact h
    | succ k =>
      simp at h ⊢
      rcases h with h | h
      · exact .inr (.inl h)
      · rcases ih h with q | q
        · exact .inl q
        · exact .inr (.inr q)
theorem mem_erase {M : List Re} {k : Nat} {r : Re} (h : r ∈ M.eraseIdx k) : r ∈ M := List.eraseIdx_subset h
theorem Ok.chg (o : Ok B G H M) (hk : M[k]? = some R) (hf : R'.ft = R.ft) (ho : R'.own = R.own) (e : Ex G G2) (hh : ∀ a u, H a = some u → a ∉ R.ft → H2 a = some u) (i : Ex G2 H2) (n : ∀ a u, H a = some u → Mt u → G a = none → G2 a = none) (m : R'.p G2 H2) : Ok B G2 H2 (M.set k R') where
  g := o.g.trans e
  l := o.l.trans e
  h := fun a u z c => hh a u (o.h a u z c) fun q => by
    rcases o.f R (List.mem_of_getElem? hk) a q with y | y
    · rw [y] at z; cases z
    · exact c y.2
  i := i
  n := fun a u z t y => by
    by_cases c : a ∈ B.F
    · obtain ⟨u2, z2, t2⟩ := o.k a c
      exact n a u2 z2 t2 (o.n a u z t y)
    · exact n a u (o.h a u z c) t (o.n a u z t y)
  k := fun a c => by
    obtain ⟨u, z, t⟩ := o.k a c
    by_cases q : a ∈ R.ft
    · exact R'.at_ m a (hf ▸ q)
    · exact ⟨u, hh a u z q, t⟩
  m := fun r hr => by
    rcases mem_set_or hr with q | q
    · rw [q]; exact m
    · exact r.loc (fun a ha u z => hh a u z (feet_apart o.d hk q a ha)) (r.mono e (o.m r (mem_erase q)))
  z := fun a ha => by
    rw [feet_set hk hf] at ha
    obtain ⟨r, hr, hf'⟩ := List.mem_flatMap.mp ha
    obtain ⟨u, z, t⟩ := r.at_ (o.m r hr) a hf'
    exact n a u z t (o.z a ha)
  d := by rw [feet_set hk hf]; exact o.d
  f := fun r hr a ha => by
    rcases mem_set_or hr with q | q
    · subst q
      rw [ho]
      exact o.f R (List.mem_of_getElem? hk) a (hf ▸ ha)
    · exact o.f r (mem_erase q) a ha
theorem feet_snoc {M : List Re} : feet (M ++ [R]) = feet M ++ R.ft := by unfold feet; rw [List.flatMap_append]; simp
theorem Ok.add (o : Ok B G H M) (g : Gr G H G2 H2) (hd : R.ft.Nodup) (hn : ∀ a ∈ R.ft, H a = none ∧ G2 a = none) (m : R.p G2 H2) : Ok B G2 H2 (M ++ [R]) := by
  have o2 := o.gr g
  refine ⟨o2.g, o2.l, o2.h, o2.i, o2.n, o2.k, fun r hr => ?_, fun a ha => ?_, ?_, fun r hr a ha => ?_⟩
  · rcases List.mem_append.mp hr with q | q
    · exact o2.m r q
    · rw [List.mem_singleton.mp q]; exact m
  · rw [feet_snoc] at ha
    rcases List.mem_append.mp ha with q | q
    · exact o2.z a q
    · exact (hn a q).2
  · rw [feet_snoc]
    refine List.nodup_append.mpr ⟨o.d, hd, fun a ha b hb e => ?_⟩
    subst e
    obtain ⟨r, hr, hf⟩ := List.mem_flatMap.mp ha
    obtain ⟨u, z, t⟩ := r.at_ (o.m r hr) a hf
    rw [(hn a hb).1] at z; cases z
  · rcases List.mem_append.mp hr with q | q
    · exact o.f r q a ha
    · rw [List.mem_singleton.mp q] at ha
      refine .inl ?_
      cases z : B.H0 a with
      | none => rfl
      | some u =>
        by_cases c : a ∈ B.F
        · obtain ⟨u2, z2, t2⟩ := o.k a c
          rw [(hn a ha).1] at z2; cases z2
        · have := o.h a u z c
          rw [(hn a ha).1] at this; cases this
theorem feet_erase_sub {M : List Re} {k : Nat} {a : Addr} (h : a ∈ feet (M.eraseIdx k)) : a ∈ feet M := by
  obtain ⟨r, hr, hf⟩ := List.mem_flatMap.mp h
  exact mem_feet (mem_erase hr) hf
theorem feet_erase_nodup {M : List Re} : ∀ {k : Nat}, (feet M).Nodup → (feet (M.eraseIdx k)).Nodup := by
  induction M with
  | nil => intro k h; simpa using h
  | cons b M ih =>
    intro k h
    have h3 := List.nodup_append.mp (show (b.ft ++ feet M).Nodup from h)
    cases k with
    | zero => exact h3.2.1
    | succ k =>
      show (b.ft ++ feet (M.eraseIdx k)).Nodup
      exact List.nodup_append.mpr ⟨h3.1, ih h3.2.1, fun x hx y hy => h3.2.2 x hx y (feet_erase_sub hy)⟩
theorem Ok.frz {p : Addr} {rs : List Rp} {K : PySem.W.Frag} (o : Ok B G H M) (hk : M[k]? = some (lstR p rs)) : ∃ G2, Ex G G2 ∧ Ok B G2 H (M.eraseIdx k) ∧ (rL K rs).p (.ref p) G2 := by
  have hm := List.mem_of_getElem? hk
  obtain ⟨ws, h1, h2⟩ := o.m _ hm
  have gp : G p = none := o.z p (mem_feet hm (List.mem_singleton.mpr rfl))
  have e : Ex G (upd G p (.lst ws)) := Ex.new gp
  refine ⟨upd G p (.lst ws), e, ⟨o.g.trans e, o.l.trans e, o.h, ex_add o.i h1, fun a u z t y => ?_, o.k, fun r hr => r.mono e (o.m r (mem_erase hr)), fun a ha => ?_, feet_erase_nodup o.d, fun r hr => o.f r (mem_erase hr)⟩, ⟨p, ws, rfl, upd_same, h2.mono e⟩⟩
  · rcases o.f _ hm p (List.mem_singleton.mpr rfl) with q | q
    · rw [upd_ne (ne_of_none z q)]; exact o.n a u z t y
    · exact absurd q.1 (show ¬ (true = false) by decide)
  · obtain ⟨r, hr, hf⟩ := List.mem_flatMap.mp ha
    have ne : a ≠ p := fun q => feet_apart o.d hk hr a hf (List.mem_singleton.mpr q)
    rw [upd_ne ne]
    exact o.z a (feet_erase_sub ha)
theorem Ok.drop (o : Ok B G H M) : Ok B G H (M.eraseIdx k) := ⟨o.g, o.l, o.h, o.i, o.n, o.k, fun r hr => o.m r (mem_erase hr), fun a ha => o.z a (feet_erase_sub ha), feet_erase_nodup o.d, fun r hr => o.f r (mem_erase hr)⟩
theorem Ok.nil (e : Ex G H) : Ok ⟨G, H, [], G⟩ G H [] := ⟨Ex.refl _, Ex.refl _, fun _ _ z _ => z, e, fun _ _ _ _ y => y, fun _ h => (nomatch h), fun _ h => (nomatch h), fun _ h => (nomatch h), List.nodup_nil, fun _ h => (nomatch h)⟩
theorem Ok.to {G0 H0 Gl : Hp} (o : Ok ⟨G0, H0, [], Gl⟩ G H M) : Gr G0 H0 G H := ⟨o.g, fun a u z => o.h a u z (fun q => nomatch q), o.i, o.n⟩
theorem Ok.box {K : PySem.W.Frag} {b : Addr} (e : Ex G H) (gb : G b = Option.none) (hb : Box K G H b) : Ok ⟨G, H, [b], G⟩ G H [boxR K b] :=
  ⟨Ex.refl _, Ex.refl _, fun _ _ z _ => z, e, fun _ _ _ _ y => y, fun a h => by rw [List.mem_singleton.mp h]; exact hb.at_, fun r h => by rw [List.mem_singleton.mp h]; exact hb, fun a h => by
    have : a ∈ [b] := by simpa [feet, boxR] using h
    rw [List.mem_singleton.mp this]; exact gb, by simp [feet, boxR], fun r h a ha => by
    rw [List.mem_singleton.mp h] at ha ⊢
    exact .inr ⟨rfl, ha⟩⟩
theorem Ok.toB {G0 H0 Gl : Hp} {b : Addr} (o : Ok ⟨G0, H0, [b], Gl⟩ G H M) : GrB b G0 H0 G H := ⟨o.g, fun a u z n => o.h a u z (fun q => n (List.mem_singleton.mp q)), o.i, o.n⟩
end
def EvX (Γ : Ctx) (te : TE) (r : Rp) : Prop := ∀ σ G, En σ G Γ → EvD te σ G r
def EvNX (Γ : Ctx) (te : TE) (rs : List Rp) : Prop := ∀ σ G, En σ G Γ → EvN te σ G rs
def EvTX (Γ : Ctx) (t : TT) (b : Bool) : Prop := ∀ σ G, En σ G Γ → EvT t σ G b
def EvAX (Γ : Ctx) (ta : TA) (rs : List Rp) : Prop := ∀ σ G, En σ G Γ → EvAD ta σ G rs
def EX (Γ : Ctx) (M : List Re) (te : TE) (κ : Rp → List Re → Prop) : Prop := ∀ B G H σ, Ok B G H M → En σ G Γ → ∀ Q : VK, (∀ v G' H' r M', κ r M' → Ok B G' H' M' → Ex G G' → r.p v G' → Q v H') → te σ H Q
def EXT (Γ : Ctx) (M : List Re) (t : TT) (κ : Bool → List Re → Prop) : Prop := ∀ B G H σ, Ok B G H M → En σ G Γ → ∀ Q : Bool → Hp → Prop, (∀ c G' H' M', κ c M' → Ok B G' H' M' → Ex G G' → Q c H') → t σ H Q
section
variable {Γ : Ctx} {M : List Re} {te ta tb : TE} {t : TT} {r : Rp} {b : Addr} {K : PySem.W.Frag} {P : Rp → Prop} {k i : Nat}
theorem EX.of (h : EvX Γ te r) : EX Γ M te (fun r' M' => r' = r ∧ M' = M) := fun B G H σ o en Q q => h σ G en H o.i Q fun v G2 H2 g hv => q v G2 H2 r M ⟨rfl, rfl⟩ (o.gr g) g.g hv
theorem EXT.of {c : Bool} (h : EvTX Γ t c) : EXT Γ M t (fun c' M' => c' = c ∧ M' = M) := fun B G H σ o en Q q => h σ G en H o.i Q fun H2 e => q c G H2 M ⟨rfl, rfl⟩ (o.ex e) (Ex.refl _)
theorem EX.imp {κ κ' : Rp → List Re → Prop} (h : EX Γ M te κ) (hk : ∀ r M', κ r M' → κ' r M') : EX Γ M te κ' := fun B G H σ o en Q q => h B G H σ o en Q fun v G' H' r M' z => q v G' H' r M' (hk r M' z)
theorem set_same {M : List Re} {R : Re} (h : M[k]? = some R) : M.set k R = M := by
  apply List.ext_getElem?
  intro i
  by_cases c : k = i
  · subst c
    rw [List.getElem?_set_self', h]; rfl
  · rw [List.getElem?_set_ne c]
theorem Ok.grB {B : Ba} {G H G2 H2 : Hp} (o : Ok B G H M) (hk : M[k]? = some (boxR K b)) (g : GrB b G H G2 H2) (hb : Box K G2 H2 b) : Ok B G2 H2 M := by
  have := o.chg (R' := boxR K b) hk rfl rfl g.g (fun a u z n => g.h a u z fun q => n (List.mem_singleton.mpr q)) g.i g.n hb
  rwa [set_same hk] at this
theorem EX.ofB (hk : M[k]? = some (boxR K b)) (h : ∀ σ G, En σ G Γ → EvB K te σ b G P) : EX Γ M te (fun r M' => P r ∧ M' = M) := fun B G H σ o en Q q => by
  have hm := List.mem_of_getElem? hk
  have gb : G b = none := o.z b (mem_feet hm (List.mem_singleton.mpr rfl))
  exact h σ G en H o.i gb (o.m _ hm) Q fun r v G2 H2 p g hb hv => q v G2 H2 r M ⟨p, rfl⟩ (o.grB hk g hb) g.g hv
theorem EXT.ofB {P : Bool → Prop} (hk : M[k]? = some (boxR K b)) (h : ∀ σ G, En σ G Γ → EvTB K t σ b G P) : EXT Γ M t (fun c M' => P c ∧ M' = M) := fun B G H σ o en Q q => by
  have hm := List.mem_of_getElem? hk
  have gb : G b = none := o.z b (mem_feet hm (List.mem_singleton.mpr rfl))
  exact h σ G en H o.i gb (o.m _ hm) Q fun c G2 H2 p g hb => q c G2 H2 M ⟨p, rfl⟩ (o.grB hk g hb) g.g
theorem Ok.rd {B : Ba} {G H : Hp} {p : Addr} {rs : List Rp} {σ : L2.St} (o : Ok B G H M) (hk : M[k]? = some (lstR p rs)) (hi : Γ[i]? = some (some (rV (.ref p)))) (en : En σ G Γ) : ∃ G2, Ex G2 H ∧ En σ G2 (Γ.set i (some (rL K rs))) := by
  have hm := List.mem_of_getElem? hk
  obtain ⟨ws, h1, h2⟩ := o.m _ hm
  have gp : G p = none := o.z p (mem_feet hm (List.mem_singleton.mpr rfl))
  have e : Ex G (upd G p (.lst ws)) := Ex.new gp
  obtain ⟨v, hv1, hv2⟩ := en.get hi
  obtain rfl : v = V.ref p := hv2
  refine ⟨upd G p (.lst ws), ex_add o.i h1, ?_⟩
  have z := En.set (r := rL K rs) (v := .ref p) ⟨p, ws, rfl, upd_same, h2.mono e⟩ i (en.mono e)
  have es : σ.set i (some (.ref p)) = σ := by
    apply List.ext_getElem?
    intro j
    by_cases c : i = j
    · subst c
      rw [List.getElem?_set_self', hv1]; rfl
    · rw [List.getElem?_set_ne c]
  rwa [es] at z
theorem EX.rd {p : Addr} {rs : List Rp} {v : V} (hk : M[k]? = some (lstR p rs)) (hi : Γ[i]? = some (some (rV (.ref p)))) (h : EvX (Γ.set i (some (rL K rs))) te (rV v)) : EX Γ M te (fun r M' => r = rV v ∧ M' = M) := fun B G H σ o en Q q => by
  obtain ⟨G2, e2, en2⟩ := o.rd (K := K) hk hi en
  exact h σ G2 en2 H e2 Q fun w G3 H3 g hw => q w G H3 (rV v) M ⟨rfl, rfl⟩ (o.ex g.h) (Ex.refl _) hw
theorem EXT.rd {p : Addr} {rs : List Rp} {c : Bool} (hk : M[k]? = some (lstR p rs)) (hi : Γ[i]? = some (some (rV (.ref p)))) (h : EvTX (Γ.set i (some (rL K rs))) t c) : EXT Γ M t (fun c' M' => c' = c ∧ M' = M) := fun B G H σ o en Q q => by
  obtain ⟨G2, e2, en2⟩ := o.rd (K := K) hk hi en
  exact h σ G2 en2 H e2 Q fun H3 e3 => q c G H3 M ⟨rfl, rfl⟩ (o.ex e3) (Ex.refl _)
end
structure Kn where
  nx : Ctx → List Re → Prop
  rt : Rp → List Re → Prop := fun _ _ => False
  bk : Ctx → List Re → Prop := fun _ _ => False
  ct : Ctx → List Re → Prop := fun _ _ => False
  /-- an exception: its class, its fields -/
  ex : Ctx → Value → List (Str × V) → List Re → Prop := fun _ _ _ _ => False
def XdOk (G : Hp) (fs : List (Str × V)) : Option Addr → Prop
  | some d => G d = some (.xd fs)
  | none => fs = []
theorem XdOk.mono {G G' : Hp} {fs : List (Str × V)} (e : Ex G G') : ∀ {d : Option Addr}, XdOk G fs d → XdOk G' fs d
  | some d, h => e d _ h
  | none, h => h
structure Dk (B : Ba) (W : WX) (D : Ends) (κ : Kn) : Prop where
  nx : ∀ σ G H Γ M, Ok B G H M → En σ G Γ → κ.nx Γ M → D.nx σ H
  rt : ∀ v G H r M, Ok B G H M → r.p v G → κ.rt r M → D.rt v H
  bk : ∀ σ G H Γ M, Ok B G H M → En σ G Γ → κ.bk Γ M → D.bk σ H
  ct : ∀ σ G H Γ M, Ok B G H M → En σ G Γ → κ.ct Γ M → D.ct σ H
  ex : ∀ σ G H Γ M cls d fs, Ok B G H M → En σ G Γ → XdOk G fs d → κ.ex Γ cls fs M → W cls d σ H
def WP (W : WX) (Γ : Ctx) (M : List Re) (t : TS) (κ : Kn) : Prop := ∀ B G H σ D, Ok B G H M → En σ G Γ → Dk B W D κ → t D σ H
section
variable {W : WX} {Γ Γ' : Ctx} {M : List Re} {te ta tb tl : TE} {t1 t2 tu tw : TS} {tt : TT} {κ : Kn} {r : Rp} {K : PySem.W.Frag} {i j k : Nat}
theorem w_seq (h : WP W Γ M t1 { κ with nx := fun Γ' M' => WP W Γ' M' t2 κ }) : WP W Γ M (tSeq t1 t2) κ := fun B G H σ D o en d =>
  h B G H σ _ o en ⟨fun σ' G' H' Γ' M' o' en' w => w B G' H' σ' D o' en' d, d.rt, d.bk, d.ct, d.ex⟩
theorem w_nx (h : κ.nx Γ M) : WP W Γ M tNext κ := fun B G H σ D o en d => d.nx σ G H Γ M o en h
theorem w_sub (hs : Sub Γ Γ') (h : WP W Γ' M t1 κ) : WP W Γ M t1 κ := fun B G H σ D o en d => h B G H σ D o (en.weak hs) d
theorem w_ret0 (hn : κ.rt (rV .non) M) : WP W Γ M tRetN κ := fun B G H σ D o en d => d.rt _ G H (rV .non) M o rfl hn
theorem w_if {b : Bool} (h : EvTX Γ tt b) (h1 : b = true → WP W Γ M tu κ) (h2 : b = false → WP W Γ M tw κ) : WP W Γ M (tIfS tt tu tw) κ := fun B G H σ D o en d =>
  h σ G en H o.i _ fun H2 e => by
    cases b with
    | true =>
      show tu D σ H2
      exact h1 rfl B G H2 σ D (o.ex e) en d
    | false =>
      show tw D σ H2
      exact h2 rfl B G H2 σ D (o.ex e) en d
theorem w_no (h : EvTX Γ tt false) (h2 : WP W Γ M tw κ) : WP W Γ M (tIfS tt tu tw) κ := w_if h (fun z => nomatch z) fun _ => h2
theorem w_yes (h : EvTX Γ tt true) (h2 : WP W Γ M tu κ) : WP W Γ M (tIfS tt tu tw) κ := w_if h (fun _ => h2) fun z => nomatch z
theorem w_frz {p : Addr} {rs : List Rp} (K : PySem.W.Frag) (k i : Nat) (hk : M[k]? = some (lstR p rs)) (hi : Γ[i]? = some (some (rV (.ref p)))) (h : WP W (Γ.set i (some (rL K rs))) (M.eraseIdx k) t1 κ) : WP W Γ M t1 κ := fun B G H σ D o en d => by
  obtain ⟨G2, e, o2, hr⟩ := o.frz (K := K) hk
  obtain ⟨v, hv1, hv2⟩ := en.get hi
  obtain rfl : v = V.ref p := hv2
  have z := En.set (r := rL K rs) (v := .ref p) hr i (en.mono e)
  have es : σ.set i (some (.ref p)) = σ := by
    apply List.ext_getElem?
    intro j
    by_cases c : i = j
    · subst c
      rw [List.getElem?_set_self', hv1]; rfl
    · rw [List.getElem?_set_ne c]
  rw [es] at z
  exact h B G2 H σ D o2 z d
variable {α β : Type}
def LI (P : Nat → α → Prop) (Γi : Nat → α → Ctx) (Mi : Nat → α → List Re) (n : Nat) : Ctx → List Re → Prop := fun Γ' M' => ∃ a, P n a ∧ Sub Γ' (Γi n a) ∧ M' = Mi n a
def kLoop (I : Ctx → List Re → Prop) (κ : Kn) : Kn := { nx := I, ct := I, bk := κ.nx, rt := κ.rt, ex := κ.ex }
def Pv (B : Ba) (I : Ctx → List Re → Prop) : L2.St → Hp → Prop := fun σ H => ∃ G Γ M, Ok B G H M ∧ En σ G Γ ∧ I Γ M
theorem Dk.loop {B : Ba} {D : Ends} {I : Ctx → List Re → Prop} (d : Dk B W D κ) : Dk B W { D with nx := Pv B I, ct := Pv B I, bk := D.nx } (kLoop I κ) :=
  ⟨fun σ G H Γ M o en z => ⟨G, Γ, M, o, en, z⟩, d.rt, d.nx, fun σ G H Γ M o en z => ⟨G, Γ, M, o, en, z⟩, d.ex⟩
theorem w_forR (n : Nat) (P : Nat → α → Prop) (Γi : Nat → α → Ctx) (Mi : Nat → α → List Re) (h : EvX Γ ta (nI n)) (hn : n ≤ 100000) (a0 : α) (p0 : P 0 a0) (s0 : Sub Γ (Γi 0 a0)) (m0 : M = Mi 0 a0)
    (hs : ∀ i a, i < n → P i a → WP W ((Γi i a).set j (some (nI i))) (Mi i a) tu (kLoop (LI P Γi Mi (i + 1)) κ)) (hd : ∀ a, P n a → κ.nx (Γi n a) (Mi n a)) : WP W Γ M (tFor (iRng1 (tCons ta tNil)) (gName j) tu) κ := fun B G H σ D o en d => by
  refine Mu.s_forR n o.i (ea_cons (EvD.ev (h σ G en)) ea_nil) hn (fun i σ' H' => ∃ G Γ M, Ok B G H' M ∧ En σ' G Γ ∧ LI P Γi Mi i Γ M) (fun H1 e => ⟨G, Γ, M, o.ex e, en, a0, p0, s0, m0⟩) (fun i σ' H' hi ⟨G1, Γ1, M1, o1, en1, a, pa, sa, ma⟩ => ?_) (fun σ' H' ⟨G1, Γ1, M1, o1, en1, a, pa, sa, ma⟩ => ?_)
  · subst ma
    exact hs i a hi pa B G1 H' _ _ o1 ((en1.weak sa).set (r := nI i) rfl j) d.loop
  · subst ma
    exact d.nx _ G1 H' _ _ o1 (en1.weak sa) (hd a pa)
def Ba.low (B : Ba) (G : Hp) : Ba := { B with Gl := G }
theorem Ok.low {B : Ba} {G H G1 : Hp} (o : Ok B G H M) (e : Ex G1 G) : Ok (B.low G1) G H M := ⟨o.g, e, o.h, o.i, o.n, o.k, o.m, o.z, o.d, o.f⟩
theorem Ok.up {B : Ba} {G H G1 : Hp} (o : Ok (B.low G1) G H M) (e : Ex B.Gl G1) : Ok B G H M := ⟨o.g, e.trans o.l, o.h, o.i, o.n, o.k, o.m, o.z, o.d, o.f⟩
theorem Dk.low {B : Ba} {D : Ends} {G1 : Hp} (d : Dk B W D κ) (e : Ex B.Gl G1) : Dk (B.low G1) W D κ := ⟨fun σ G H Γ M o en z => d.nx σ G H Γ M (o.up e) en z, fun v G H r M o hv z => d.rt v G H r M (o.up e) hv z, fun σ G H Γ M o en z => d.bk σ G H Γ M (o.up e) en z, fun σ G H Γ M o en z => d.ct σ G H Γ M (o.up e) en z, fun σ G H Γ M c dd fs o en x z => d.ex σ G H Γ M c dd fs (o.up e) en x z⟩
theorem w_forL (l : List β) (ρ : β → Rp) (P : Nat → α → Prop) (Γi : Nat → α → Ctx) (Mi : Nat → α → List Re) (h : EvX Γ tl (rL K (l.map ρ))) (a0 : α) (p0 : P 0 a0) (s0 : Sub Γ (Γi 0 a0)) (m0 : M = Mi 0 a0)
    (hs : ∀ i a x, l[i]? = some x → P i a → WP W ((Γi i a).set j (some (ρ x))) (Mi i a) tu (kLoop (LI P Γi Mi (i + 1)) κ)) (hd : ∀ a, P l.length a → κ.nx (Γi l.length a) (Mi l.length a)) : WP W Γ M (tFor (iList K tl) (gName j) tu) κ := fun B G H σ D o en d => by
  refine Mu.s_forL l ρ o.i (h σ G en) (fun G1 i σ' H' => Ex B.Gl G1 ∧ Pv (B.low G1) (LI P Γi Mi i) σ' H') (fun G1 H1 g => ⟨o.l.trans g.g, G1, Γ, M, (o.gr g).low (Ex.refl _), en.mono g.g, a0, p0, s0, m0⟩) (fun G1 i σ' H' ⟨_, G2, _, _, o2, _⟩ => o2.l.trans o2.i) (fun G1 i x y σ' H' e hi hy ⟨eb, G2, Γ1, M1, o1, en1, a, pa, sa, ma⟩ => ?_) (fun G1 σ' H' _ ⟨eb, G2, Γ1, M1, o1, en1, a, pa, sa, ma⟩ => ?_)
  · subst ma
    have d2 := (d.low eb).loop (I := LI P Γi Mi (i + 1))
    exact hs i a x hi pa (B.low G1) G2 H' _ _ o1 ((en1.weak sa).set ((ρ x).mono o1.l hy) j) ⟨fun σ G H Γ M o en z => ⟨eb, d2.nx σ G H Γ M o en z⟩, d2.rt, d2.bk, fun σ G H Γ M o en z => ⟨eb, d2.ct σ G H Γ M o en z⟩, d2.ex⟩
  · subst ma
    exact d.nx _ G2 H' _ _ (o1.up eb) (en1.weak sa) (hd a pa)
end
end Mu

namespace Mu
open PySem PySem.Spec PyProof.Rows L2 Evl
section
variable {Γ : Ctx} {M : List Re} {te ta tb tc tl : TE} {t u : TT} {r r1 r2 r3 : Rp} {rs : List Rp} {K : PySem.W.Frag} {C : Addr} {i j : Nat} {v w x y : V} {a b : Int} {m n : Nat} {E : XK} {sp : Sp}
theorem x_v (h : Γ[i]? = some (some r)) : EvX Γ (tVar i) r := fun σ G en => by
  obtain ⟨v, h1, h2⟩ := en.get h
  exact ed_var h1 h2
theorem x_c : EvX Γ (tC v) (rV v) := fun σ G en => Ev.d ev_c
theorem x_is (h : EvX Γ te r) (e : r = r1) : EvX Γ te r1 := e ▸ h
theorem xn_is {ss : List Rp} (h : EvNX Γ te rs) (e : rs = ss) : EvNX Γ te ss := e ▸ h
theorem t_is {c d : Bool} (h : EvTX Γ t c) (e : c = d) : EvTX Γ t d := e ▸ h
theorem EvNX.d (h : EvNX Γ te rs) : EvX Γ te (rL K rs) := fun σ G en => EvN.d (h σ G en)
theorem xa_nil : EvAX Γ tNil [] := fun σ G en => ead_nil
theorem xa_cons {tr : TA} (h : EvX Γ te r) (hr : EvAX Γ tr rs) : EvAX Γ (tCons te tr) (r :: rs) := fun σ G en => ead_cons (h σ G en) (hr σ G en)
theorem x_I0 {g : Int → Int → V} (ha : EvX Γ ta (rI a)) (hb : EvX Γ tb (rI b)) : EvX Γ (tOp (rI0 g) ta tb) (rV (g a b)) := fun σ G en => Ev.d (ev_op (EvD.ev (ha σ G en)) (EvD.ev (hb σ G en)) rv_I0)
theorem x_I {c : Int → Int → Prop} {g : Int → Int → V} (ha : EvX Γ ta (rI a)) (hb : EvX Γ tb (rI b)) (hc : c a b) : EvX Γ (tOp (L2.rI c g) ta tb) (rV (g a b)) := fun σ G en => Ev.d (ev_op (EvD.ev (ha σ G en)) (EvD.ev (hb σ G en)) (rv_I hc))
theorem x_addN (ha : EvX Γ ta (nI m)) (hb : EvX Γ tb (nI n)) : EvX Γ (tOp (rI0 fun i j => .int (i + j)) ta tb) (nI (m + n)) := x_is (x_I0 ha hb) (by show rI _ = rI _; congr 1)
theorem x_subN (ha : EvX Γ ta (nI m)) (hb : EvX Γ tb (nI n)) (h : n ≤ m) : EvX Γ (tOp (rI0 fun i j => .int (i - j)) ta tb) (nI (m - n)) := x_is (x_I0 ha hb) (by show rI _ = rI _; congr 1; omega)
theorem x_int (h : EvX Γ te (rI a)) : EvX Γ (tCB (fun xs H Q => (∃ i, xs = [.int i] ∧ Q (.int i) H) ∨ ∃ k, xs = [.bl k] ∧ Q (.int (if k then 1 else 0)) H) (tCons te tNil)) (rI a) := fun σ G en => Ev.d (ev_int (EvD.ev (h σ G en)))
theorem x_cn (n : Nat) : EvX Γ (tC (.int (n : Int))) (nI n) := x_c
theorem x_and {c d : Bool} (h1 : EvX Γ ta (rB c)) (h2 : c = true → EvX Γ tb (rB d)) : EvX Γ (tAndV ta tb) (rB (c && d)) := fun σ G en => Ev.d (ev_andV (EvD.ev (h1 σ G en)) fun z => EvD.ev (h2 z σ G en))
theorem x_or {c d : Bool} (h1 : EvX Γ ta (rB c)) (h2 : c = false → EvX Γ tb (rB d)) : EvX Γ (tOrV ta tb) (rB (c || d)) := fun σ G en => Ev.d (ev_orV (EvD.ev (h1 σ G en)) fun z => EvD.ev (h2 z σ G en))
theorem x_not {c : Bool} (h1 : EvX Γ ta (rB c)) : EvX Γ (tNotV ta) (rB (!c)) := fun σ G en => Ev.d (ev_notV (EvD.ev (h1 σ G en)))
theorem x_eqV (ha : EvX Γ ta (rV x)) (hb : EvX Γ tb (rV y)) (hs : scal x y = true := by rfl) : EvX Γ (tOp rEq ta tb) (rB (decide (x = y))) := fun σ G en => Ev.d (ev_op (EvD.ev (ha σ G en)) (EvD.ev (hb σ G en)) (rv_eq hs))
theorem x_neV (ha : EvX Γ ta (rV x)) (hb : EvX Γ tb (rV y)) (hs : scal x y = true := by rfl) : EvX Γ (tOp rNe ta tb) (rB (!decide (x = y))) := fun σ G en => Ev.d (ev_op (EvD.ev (ha σ G en)) (EvD.ev (hb σ G en)) (rv_ne hs))
theorem dec_nat (p q : Nat) : decide (V.int (p : Int) = V.int (q : Int)) = decide (p = q) := by
  rw [Bool.eq_iff_iff, decide_eq_true_iff, decide_eq_true_iff]
  constructor
  · intro z; injection z with z; omega
  · intro z; rw [z]
theorem dec_int (p q : Int) : decide (V.int p = V.int q) = decide (p = q) := by
  rw [Bool.eq_iff_iff, decide_eq_true_iff, decide_eq_true_iff]
  constructor
  · intro z; injection z
  · intro z; rw [z]
theorem x_eqN (ha : EvX Γ ta (nI m)) (hb : EvX Γ tb (nI n)) : EvX Γ (tOp rEq ta tb) (rB (decide (m = n))) := x_is (x_eqV ha hb) (by rw [dec_nat])
theorem x_neN (ha : EvX Γ ta (nI m)) (hb : EvX Γ tb (nI n)) : EvX Γ (tOp rNe ta tb) (rB (!decide (m = n))) := x_is (x_neV ha hb) (by rw [dec_nat])
theorem x_bandN (ha : EvX Γ ta (nI m)) (hb : EvX Γ tb (nI n)) : EvX Γ (tOp (rI0 fun i j => .int (Builtin.bitAnd i j)) ta tb) (nI (m &&& n)) := x_is (x_I0 ha hb) (by rw [band_nat])
theorem x_borN (ha : EvX Γ ta (nI m)) (hb : EvX Γ tb (nI n)) : EvX Γ (tOp (rI0 fun i j => .int (Builtin.bitOr i j)) ta tb) (nI (m ||| n)) := x_is (x_I0 ha hb) (by rw [bor_nat])
theorem x_shrN (ha : EvX Γ ta (nI m)) (hb : EvX Γ tb (nI n)) : EvX Γ (tOp (L2.rI (fun _ j => 0 ≤ j) fun i j => .int (i / 2 ^ j.toNat)) ta tb) (nI (m / 2 ^ n)) := x_is (x_I ha hb (by omega)) (by rw [shr_nat])
theorem x_ixT (ha : EvX Γ ta (rT K rs)) (hb : EvX Γ tb (nI n)) (hi : rs[n]? = some r) : EvX Γ (tOp (rIxT K) ta tb) r := fun σ G en => ed_ixT (ha σ G en) (EvD.ev (hb σ G en)) hi
theorem x_ixL (ha : EvX Γ ta (rL K rs)) (hb : EvX Γ tb (nI n)) (hi : rs[n]? = some r) : EvX Γ (tOp (rIxL K) ta tb) r := fun σ G en => ed_ixL (ha σ G en) (EvD.ev (hb σ G en)) hi
theorem get_map {α : Type} {ρ : α → Rp} {l : List α} {d : α} (h : n < l.length) : (l.map ρ)[n]? = some (ρ (l.getD n d)) := by
  rw [List.getElem?_map, List.getD_eq_getElem?_getD, List.getElem?_eq_getElem h]; rfl
theorem x_ixLm {α : Type} {ρ : α → Rp} {l : List α} (d : α) (ha : EvX Γ ta (rL K (l.map ρ))) (hb : EvX Γ tb (nI n)) (h : n < l.length) : EvX Γ (tOp (rIxL K) ta tb) (ρ (l.getD n d)) := x_ixL ha hb (get_map h)
theorem x_ixTm {α : Type} {ρ : α → Rp} {l : List α} (d : α) (ha : EvX Γ ta (rT K (l.map ρ))) (hb : EvX Γ tb (nI n)) (h : n < l.length) : EvX Γ (tOp (rIxT K) ta tb) (ρ (l.getD n d)) := x_ixT ha hb (get_map h)
theorem x_ixLn {l : List Nat} (ha : EvX Γ ta (rLn K l)) (hb : EvX Γ tb (nI n)) (h : n < l.length) : EvX Γ (tOp (rIxL K) ta tb) (nI (l.getD n 0)) := x_ixLm 0 ha hb h
theorem x_ixTn {l : List Nat} (ha : EvX Γ ta (rTn K l)) (hb : EvX Γ tb (nI n)) (h : n < l.length) : EvX Γ (tOp (rIxT K) ta tb) (nI (l.getD n 0)) := x_ixTm 0 ha hb h
theorem x_ixB {l : List Nat} (ha : EvX Γ ta (rLL K (l.map bitsN))) (hb : EvX Γ tb (nI n)) (h : n < l.length) : EvX Γ (tOp (rIxL K) ta tb) (rLn K (bitsN (l.getD n 0))) := x_ixL ha hb (by
  rw [List.map_map, List.getElem?_map, List.getD_eq_getElem?_getD, List.getElem?_eq_getElem h]; rfl)
theorem x_lenL (h : EvX Γ te (rL K rs)) : EvX Γ (tCB (rLenS K) (tCons te tNil)) (nI rs.length) := fun σ G en => Ev.d (ev_lenL (h σ G en) rfl)
theorem x_lenT (h : EvX Γ te (rT K rs)) : EvX Γ (tCB (rLenS K) (tCons te tNil)) (nI rs.length) := fun σ G en => Ev.d (ev_lenT (h σ G en) rfl)
theorem x_lenLm {α : Type} {ρ : α → Rp} {l : List α} (h : EvX Γ te (rL K (l.map ρ))) : EvX Γ (tCB (rLenS K) (tCons te tNil)) (nI l.length) := x_is (x_lenL h) (by rw [List.length_map])
theorem x_lenTm {α : Type} {ρ : α → Rp} {l : List α} (h : EvX Γ te (rT K (l.map ρ))) : EvX Γ (tCB (rLenS K) (tCons te tNil)) (nI l.length) := x_is (x_lenT h) (by rw [List.length_map])
theorem x_lenLn {l : List Nat} (h : EvX Γ te (rLn K l)) : EvX Γ (tCB (rLenS K) (tCons te tNil)) (nI l.length) := x_lenLm h
theorem x_lenTn {l : List Nat} (h : EvX Γ te (rTn K l)) : EvX Γ (tCB (rLenS K) (tCons te tNil)) (nI l.length) := x_lenTm h
theorem x_lenLL {l : List (List Nat)} (h : EvX Γ te (rLL K l)) : EvX Γ (tCB (rLenS K) (tCons te tNil)) (nI l.length) := x_lenLm h
theorem x_lenB {l : List Nat} (h : EvX Γ te (rLL K (l.map bitsN))) : EvX Γ (tCB (rLenS K) (tCons te tNil)) (nI l.length) := x_is (x_lenLL h) (by rw [List.length_map])
theorem xn_list (h : EvX Γ te (rL K rs)) : EvNX Γ (tCB (rListS K) (tCons te tNil)) rs := fun σ G en => en_listL (h σ G en)
theorem xn_listT (h : EvX Γ te (rT K rs)) : EvNX Γ (tCB (rListS K) (tCons te tNil)) rs := fun σ G en => en_listT (h σ G en)
theorem x_tupL (h : EvX Γ te (rL K rs)) : EvX Γ (tCB (rTupO K) (tCons te tNil)) (rT K rs) := fun σ G en => ed_tupL (h σ G en)
theorem x_tup {ta : TA} (h : EvAX Γ ta rs) (hl : rs.length ≤ 100000 := by decide) : EvX Γ (tTup ta) (rT K rs) := fun σ G en => ed_tup (h σ G en) hl
theorem xn_lst {ta : TA} (h : EvAX Γ ta rs) (hl : rs.length ≤ 100000 := by decide) : EvNX Γ (tLst ta) rs := fun σ G en => en_lst (h σ G en) hl
theorem x_lst {ta : TA} (h : EvAX Γ ta rs) (hl : rs.length ≤ 100000 := by decide) : EvX Γ (tLst ta) (rL K rs) := (xn_lst h hl).d
theorem xn_cat {ss : List Rp} (ha : EvX Γ ta (rL K rs)) (hb : EvX Γ tb (rL K ss)) (hz : rs.length + ss.length ≤ 100000) : EvNX Γ (tOp rCat ta tb) (rs ++ ss) := fun σ G en => en_cat (ha σ G en) (hb σ G en) hz
theorem x_catm {α : Type} {ρ : α → Rp} {l l' : List α} (ha : EvX Γ ta (rL K (l.map ρ))) (hb : EvX Γ tb (rL K (l'.map ρ))) (hz : l.length + l'.length ≤ 100000) : EvX Γ (tOp rCat ta tb) (rL K ((l ++ l').map ρ)) := x_is (EvNX.d (K := K) (xn_cat (K := K) ha hb (by rw [List.length_map, List.length_map]; exact hz))) (by rw [List.map_append])
theorem en_at {σ : L2.St} {G : Hp} (en : En σ G Γ) {vs : List Nat} (h : r.p v G) : En ((wipe σ vs).set j (some v)) G ((wipeC Γ vs).set j (some r)) := (en.wipe vs).set h j
theorem xn_lcL {α : Type} {vs : List Nat} (l : List α) (ρ : α → Rp) (f : α → Bool) (rr : α → Rp) (h : EvX Γ tl (rL K (l.map ρ))) (hz : l.length ≤ 40000) (ht : ∀ a, a ∈ l → EvTX ((wipeC Γ vs).set j (some (ρ a))) t (f a)) (he : ∀ a, a ∈ l → f a = true → EvX ((wipeC Γ vs).set j (some (ρ a))) te (rr a)) (hj : j ∈ vs := by simp) : EvNX Γ (tLc (iList K tl) (gName j) t te vs) ((l.filter f).map rr) := fun σ G en =>
  en_lcL l ρ f rr (h σ G en) hz (wipe_turn σ hj) (fun a x G1 ha e hx => ht a ha _ G1 (en_at (en.mono e) hx)) (fun a x G1 ha hf e hx => he a ha hf _ G1 (en_at (en.mono e) hx))
theorem xn_lcT {α : Type} {vs : List Nat} (l : List α) (ρ : α → Rp) (f : α → Bool) (rr : α → Rp) (h : EvX Γ tl (rT K (l.map ρ))) (hz : l.length ≤ 40000) (ht : ∀ a, a ∈ l → EvTX ((wipeC Γ vs).set j (some (ρ a))) t (f a)) (he : ∀ a, a ∈ l → f a = true → EvX ((wipeC Γ vs).set j (some (ρ a))) te (rr a)) (hj : j ∈ vs := by simp) : EvNX Γ (tLc (iTup K tl) (gName j) t te vs) ((l.filter f).map rr) := fun σ G en =>
  en_lcT l ρ f rr (h σ G en) hz (wipe_turn σ hj) (fun a x G1 ha e hx => ht a ha _ G1 (en_at (en.mono e) hx)) (fun a x G1 ha hf e hx => he a ha hf _ G1 (en_at (en.mono e) hx))
theorem xn_lcR {vs : List Nat} (n : Nat) (f : Nat → Bool) (rr : Nat → Rp) (h : EvX Γ ta (nI n)) (hz : n ≤ 40000) (ht : ∀ a, a < n → EvTX ((wipeC Γ vs).set j (some (nI a))) t (f a)) (he : ∀ a, a < n → f a = true → EvX ((wipeC Γ vs).set j (some (nI a))) te (rr a)) (hj : j ∈ vs := by simp) : EvNX Γ (tLc (iRng1 (tCons ta tNil)) (gName j) t te vs) (((List.range n).filter f).map rr) := fun σ G en =>
  en_lcR n f rr (ea_cons (EvD.ev (h σ G en)) ea_nil) hz (wipe_turn σ hj) (fun a G1 ha e => ht a ha _ G1 (en_at (r := nI a) (en.mono e) rfl)) (fun a G1 ha hf e => he a ha hf _ G1 (en_at (r := nI a) (en.mono e) rfl))
theorem t_yes : EvTX Γ tYes true := fun σ G en => yes_T rfl
theorem xn_lcL0 {α : Type} {vs : List Nat} (l : List α) (ρ : α → Rp) (rr : α → Rp) (h : EvX Γ tl (rL K (l.map ρ))) (hz : l.length ≤ 40000) (he : ∀ a, a ∈ l → EvX ((wipeC Γ vs).set j (some (ρ a))) te (rr a)) (hj : j ∈ vs := by simp) : EvNX Γ (tLc (iList K tl) (gName j) tYes te vs) (l.map rr) :=
  xn_is (xn_lcL l ρ (fun _ => true) rr h hz (fun _ _ => t_yes) (fun a ha _ => he a ha) hj) filter_yes
theorem xn_lcT0 {α : Type} {vs : List Nat} (l : List α) (ρ : α → Rp) (rr : α → Rp) (h : EvX Γ tl (rT K (l.map ρ))) (hz : l.length ≤ 40000) (he : ∀ a, a ∈ l → EvX ((wipeC Γ vs).set j (some (ρ a))) te (rr a)) (hj : j ∈ vs := by simp) : EvNX Γ (tLc (iTup K tl) (gName j) tYes te vs) (l.map rr) :=
  xn_is (xn_lcT l ρ (fun _ => true) rr h hz (fun _ _ => t_yes) (fun a ha _ => he a ha) hj) filter_yes
theorem xn_lcR0 {vs : List Nat} (n : Nat) (rr : Nat → Rp) (h : EvX Γ ta (nI n)) (hz : n ≤ 40000) (he : ∀ a, a < n → EvX ((wipeC Γ vs).set j (some (nI a))) te (rr a)) (hj : j ∈ vs := by simp) : EvNX Γ (tLc (iRng1 (tCons ta tNil)) (gName j) tYes te vs) ((List.range n).map rr) :=
  xn_is (xn_lcR n (fun _ => true) rr h hz (fun _ _ => t_yes) (fun a ha _ => he a ha) hj) filter_yes
theorem t_and {c d : Bool} (h1 : EvTX Γ t c) (h2 : c = true → EvTX Γ u d) : EvTX Γ (tAnd t u) (c && d) := fun σ G en => et_and (h1 σ G en) fun z => h2 z σ G en
theorem t_or {c d : Bool} (h1 : EvTX Γ t c) (h2 : c = false → EvTX Γ u d) : EvTX Γ (tOr t u) (c || d) := fun σ G en => et_or (h1 σ G en) fun z => h2 z σ G en
theorem t_not {c : Bool} (h1 : EvTX Γ t c) : EvTX Γ (tNot t) (!c) := fun σ G en => et_not (h1 σ G en)
theorem t_B {c : Bool} (h : EvX Γ te (rB c)) : EvTX Γ (tB te) c := fun σ G en => et_B (EvD.ev (h σ G en))
theorem t_T {c : Bool} (h : EvX Γ te (rB c)) : EvTX Γ (tTest te) c := fun σ G en => et_test (EvD.ev (h σ G en))
theorem x_isInt (h : EvX Γ te (rI a)) : EvX Γ (tCB (rIsi K) (tCons te (tCons (tC (.ty "int")) tNil))) (rB true) := fun σ G en => Ev.d (is_int (EvD.ev (h σ G en)))
theorem x_isList (h : EvX Γ te (rL K rs)) : EvX Γ (tCB (rIsi K) (tCons te (tCons (tC (.ty "list")) tNil))) (rB true) := fun σ G en => Ev.d (is_list (h σ G en))
theorem x_isTup (h : EvX Γ te (rT K rs)) : EvX Γ (tCB (rIsi K) (tCons te (tCons (tC (.ty "tuple")) tNil))) (rB true) := fun σ G en => Ev.d (is_tup (h σ G en))
theorem x_isTab {m : List Nat} (c : IsC K C) (h : EvX Γ te (rTab K C m)) : EvX Γ (tCB (rIsi K) (tCons te (tCons (tC (.ref C)) tNil))) (rB true) := fun σ G en => Ev.d (is_tab c (h σ G en))
theorem x_eqD {d1 d2 : PyData} (ha : EvX Γ ta r1) (hb : EvX Γ tb r2) (a1 : AsD K r1 d1) (a2 : AsD K r2 d2) (s1 : SeqAt.shaped d1 = true) (s2 : SeqAt.shaped d2 = true) : EvX Γ (tOp (rEqD K) ta tb) (rB (PyData.eqv d1 d2)) := fun σ G en => Ev.d (ev_eqD (ha σ G en) (hb σ G en) a1 a2 s1 s2)
theorem x_neD {d1 d2 : PyData} (ha : EvX Γ ta r1) (hb : EvX Γ tb r2) (a1 : AsD K r1 d1) (a2 : AsD K r2 d2) (s1 : SeqAt.shaped d1 = true) (s2 : SeqAt.shaped d2 = true) : EvX Γ (tOp (rNeD K) ta tb) (rB (!PyData.eqv d1 d2)) := fun σ G en => Ev.d (ev_neD (ha σ G en) (hb σ G en) a1 a2 s1 s2)
theorem x_neLn {l m : List Nat} (ha : EvX Γ ta (rLn K l)) (hb : EvX Γ tb (rLn K m)) : EvX Γ (tOp (rNeD K) ta tb) (rB (!decide (l = m))) := x_is (x_neD ha hb (asd_ln l) (asd_ln m) ((sh_ln l).ok (by decide)) ((sh_ln m).ok (by decide))) (by rw [eqv_ln])
theorem x_eqLn {l m : List Nat} (ha : EvX Γ ta (rLn K l)) (hb : EvX Γ tb (rLn K m)) : EvX Γ (tOp (rEqD K) ta tb) (rB (decide (l = m))) := x_is (x_eqD ha hb (asd_ln l) (asd_ln m) ((sh_ln l).ok (by decide)) ((sh_ln m).ok (by decide))) (by rw [eqv_ln])
theorem x_eqTn {l m : List Nat} (ha : EvX Γ ta (rTn K l)) (hb : EvX Γ tb (rTn K m)) : EvX Γ (tOp (rEqD K) ta tb) (rB (decide (l = m))) := x_is (x_eqD ha hb (asd_tn l) (asd_tn m) ((sh_tn l).ok (by decide)) ((sh_tn m).ok (by decide))) (by rw [eqv_tn])
theorem x_neTn {l m : List Nat} (ha : EvX Γ ta (rTn K l)) (hb : EvX Γ tb (rTn K m)) : EvX Γ (tOp (rNeD K) ta tb) (rB (!decide (l = m))) := x_is (x_neD ha hb (asd_tn l) (asd_tn m) ((sh_tn l).ok (by decide)) ((sh_tn m).ok (by decide))) (by rw [eqv_tn])
theorem x_neLL {l m : List (List Nat)} (ha : EvX Γ ta (rLL K l)) (hb : EvX Γ tb (rLL K m)) : EvX Γ (tOp (rNeD K) ta tb) (rB (!decide (l = m))) := x_is (x_neD ha hb (asd_ll l) (asd_ll m) ((sh_ll l).ok (by decide)) ((sh_ll m).ok (by decide))) (by rw [eqv_ll])
theorem x_eqLL {l m : List (List Nat)} (ha : EvX Γ ta (rLL K l)) (hb : EvX Γ tb (rLL K m)) : EvX Γ (tOp (rEqD K) ta tb) (rB (decide (l = m))) := x_is (x_eqD ha hb (asd_ll l) (asd_ll m) ((sh_ll l).ok (by decide)) ((sh_ll m).ok (by decide))) (by rw [eqv_ll])
theorem x_neP {l m : Nat × Nat} (ha : EvX Γ ta (rP K l)) (hb : EvX Γ tb (rP K m)) : EvX Γ (tOp (rNeD K) ta tb) (rB (!decide (l = m))) := x_is (x_neD ha hb (asd_p l) (asd_p m) ((sh_p l).ok (by decide)) ((sh_p m).ok (by decide))) (by rw [eqv_p])
theorem x_inLn {l : List Nat} (ha : EvX Γ ta (nI n)) (hb : EvX Γ tb (rLn K l)) : EvX Γ (tOp (rIn K false) ta tb) (rB (decide (n ∈ l))) := fun σ G en => Ev.d (ev_inLn (neg := false) (EvD.ev (ha σ G en)) (hb σ G en))
theorem x_niLn {l : List Nat} (ha : EvX Γ ta (nI n)) (hb : EvX Γ tb (rLn K l)) : EvX Γ (tOp (rIn K true) ta tb) (rB (!decide (n ∈ l))) := fun σ G en => Ev.d (ev_inLn (neg := true) (EvD.ev (ha σ G en)) (hb σ G en))
theorem x_inP {p : Nat × Nat} {l : List (Nat × Nat)} (ha : EvX Γ ta (rP K p)) (hb : EvX Γ tb (rL K (l.map (rP K)))) : EvX Γ (tOp (rInD K) ta tb) (rB (decide (p ∈ l))) := fun σ G en => Ev.d (ev_inP (ha σ G en) (hb σ G en))
theorem x_niP {p : Nat × Nat} {l : List (Nat × Nat)} (ha : EvX Γ ta (rP K p)) (hb : EvX Γ tb (rL K (l.map (rP K)))) : EvX Γ (tOp (rNotInD K) ta tb) (rB (!decide (p ∈ l))) := fun σ G en => Ev.d (ev_notInP (ha σ G en) (hb σ G en))
theorem x_isB {c d : Bool} (ha : EvX Γ ta (rB c)) (hb : EvX Γ tb (rB d)) : EvX Γ (tOp rIsB ta tb) (rB (decide (c = d))) := fun σ G en => Ev.d (ev_isB (EvD.ev (ha σ G en)) (EvD.ev (hb σ G en)))
theorem x_isNB {c d : Bool} (ha : EvX Γ ta (rB c)) (hb : EvX Γ tb (rB d)) : EvX Γ (tOp rNotB ta tb) (rB (!decide (c = d))) := fun σ G en => Ev.d (ev_isNB (EvD.ev (ha σ G en)) (EvD.ev (hb σ G en)))
theorem x_size {m : List Nat} (h : EvX Γ ta (rTab K C m)) (hc : Cls K C) (hn : NoAttr K C "size") : EvX Γ (tFld K ta "size") (nI m.length) := fun σ G en => Ev.d (ev_size (h σ G en) hc hn)
theorem x_masks {m : List Nat} (h : EvX Γ ta (rTab K C m)) (hc : Cls K C) (hn : NoAttr K C "masks") : EvX Γ (tFld K ta "masks") (rTn K m) := fun σ G en => ed_masks (h σ G en) hc hn
theorem x_cells {m : List Nat} (h : EvX Γ ta (rTab K C m)) (hc : Cls K C) (hn : NoAttr K C "cells") : EvX Γ (tFld K ta "cells") (rT K ((pairsN m).map (rP K))) := fun σ G en => ed_cells (h σ G en) hc hn
theorem x_tabRows {m : List Nat} (h : EvX Γ te (rLL K (m.map bitsN))) (w : Wf n m) (h1 : 1 ≤ n) (h6 : n ≤ 6) : EvX Γ (tMake C (spTab K C) [] E (tCons te tNil)) (rTab K C m) := fun σ G en => ed_tabRows (h σ G en) w h1 h6
theorem e_take {k : Nat} {b : Addr} (hk : M[k]? = some (boxR K b)) (hv : Γ[i]? = some (some (rV (.ref b)))) (h : EvX Γ te (nI m)) (h0 : 0 < m) (h1 : m < 2 ^ 30) : EX Γ M (tCall (spT K) [] E (tCons (tVar i) (tCons te tNil))) (fun r M' => (∃ d, d < m ∧ r = nI d) ∧ M' = M) := EX.imp (EX.ofB (P := PN m) hk fun σ G en => by
  obtain ⟨v, hv1, hv2⟩ := en.get hv
  obtain rfl : v = V.ref b := hv2
  exact eb_take hv1 (EvD.ev (h σ G en)) h0 h1) fun r M' z => z
end
section
variable {W : WX} {Γ : Ctx} {t : TS} {r : Rp} {rs : List Rp} {G H : Hp} {σ : L2.St} {Q : VK} {K : PySem.W.Frag} {b : Addr}
theorem run_D (w : WP W Γ [] t { nx := fun _ _ => r = rV .non, rt := fun r' _ => r' = r }) (e : Ex G H) (en : En σ G Γ) (k : ∀ v G2 H2, Gr G H G2 H2 → r.p v G2 → Q v H2) : t { nx := fun _ H' => Q .non H', rt := Q } σ H :=
  w _ G H σ _ (Ok.nil e) en ⟨fun σ' G' H' Γ' M' o en' z => k _ G' H' o.to (by rw [z]; rfl), fun v G' H' r' M' o hv z => k v G' H' o.to (by rw [← z]; exact hv), fun _ _ _ _ _ _ _ z => z.elim, fun _ _ _ _ _ _ _ z => z.elim, fun _ _ _ _ _ _ _ _ _ _ _ z => z.elim⟩
theorem run_law {a : Addr} {ns : List Int} {i : Nat} {E : XK} (hS : SqL K H a (ns.map V.int)) (hl : ns.length ≤ 63) (hv : σ[0]? = some (some (.ref a))) (hσ : σ.length = n + 1) (hi : i < n + 1) (k : ∀ H', Q (.bl true) H')
    (w : ∀ b, WP W ((List.replicate (n + 1) none).set i (some (rV (.ref b)))) [boxR K b] t { nx := fun _ _ => False, rt := fun r _ => r = rB true }) : tSeq (tAsg (tCall (spBoxMk K) [] E (tCons (tVar 0) tNil)) (gName i)) t { nx := fun _ H' => Q .non H', rt := Q } σ H := by
  refine sq (s_box hv hS hl fun b G2 H2 e1 e2 hb gb hbox => ?_)
  refine w b _ G2 H2 _ _ (Ok.box e2 gb hbox) ?_ ⟨fun _ _ _ _ _ _ _ z => z.elim, fun v G' H' r' M' o hv z => ?_, fun _ _ _ _ _ _ _ z => z.elim, fun _ _ _ _ _ _ _ z => z.elim, fun _ _ _ _ _ _ _ _ _ _ _ z => z.elim⟩
  · have e0 : ∀ (σ : L2.St) (n : Nat), σ.length = n → En σ G2 (List.replicate n none) := fun σ => by
      induction σ with
      | nil => intro n h; subst h; exact .nil
      | cons a s ih =>
        intro n h
        cases n with
        | zero => cases h
        | succ n => exact .cons (fun x hx => nomatch hx) (ih n (by simpa using h))
    exact En.set (r := rV (.ref b)) rfl i (e0 σ _ hσ)
  · subst z
    obtain rfl : v = V.bl true := hv
    exact k H'
end
end Mu

namespace Mu
open PySem PySem.Spec PyProof.Rows L2 Evl
structure FunS (K : PySem.W.Frag) (x qual : Str) (params : Arguments) (body : List Stmt) (scope : Scope) (file : Str) (D : Addr) (f : Addr) (fd : FuncData) (cda cc : Addr) : Prop where
  fn : ∃ (oc : Value) (od : Option Addr) (kV doc pm : Value) (an : Option Addr) (ct : Value) (osl : Array (Option Value)), fd = PySem.W.ksFn x qual params body scope .none kV doc pm an (.ref cda) ct cc ∧ K.lookup f = some ⟨oc, od, .func fd, osl⟩
  co : PySem.W.codeIn K (.ref cda) qual = true
  cell : ∃ (cl : Value) (cld : Option Addr) (csl : Array (Option Value)), K.lookup cc = some ⟨cl, cld, .cell (some (.ref D)), csl⟩
  code : ∃ (ccl : Value) (cdd : Option Addr) (vs : Array Value) (ccs : Array (Option Value)) (tf : Tok), K.lookup cda = some ⟨ccl, cdd, .fields vs, ccs⟩ ∧ vs[2]? = some (.str file tf)
  cls : (PySem.W.clsIn K D).isSome = true
  kp : PySem.W.keepIn K (.ref f) = true
  op : PySem.W.nsIn K cStatics "thirdparty.any" = some none
structure FsScope (N ps : List Str) (sc : Scope) : Prop where
  kind : sc.kind = .function
  co : sc.isCoroutine = false
  gen : sc.isGenerator = false
  nd : N.Nodup
  pre : N.take ps.length = ps
  par : ∀ x ∈ ps, sc.names.lookup x = some .local
  nocell : ∀ y ∈ sc.names, y.2 ≠ .cell
  free : ∀ y ∈ sc.names, y.2 = .free → y.1 = ("__class__" : Str)
  sup : sc.names.lookup ("super" : Str) = some .globalImplicit
  cls : sc.names.lookup ("__class__" : Str) = some .free
abbrev cxS (CX : CXT) (P : Program) (w : World) (K : PySem.W.Frag) (mg : Str → Option Value) (base : Heap) (N : List Str) (qual : Str) (scope : Scope) (f cda cc : Addr) (A : Around) (outer : List Env) (s : Shared) (H : Hp) (E : XK) : Cx where
  prog := P
  w := w
  K := K
  mg := mg
  base := base
  A := A.deeper (PySem.W.ksEnv qual scope s.heap.objs.size f (.ref cda) cc)
  N := N
  s_0 := s
  H_0 := H
  env := PySem.W.ksEnv qual scope s.heap.objs.size f (.ref cda) cc
  outer := outer
  stack := PySem.W.ksEnv qual scope s.heap.objs.size f (.ref cda) cc :: outer
  ex := []
  calm := true
  fn := fun _ => false
  pn := []
  xe := fun e s' => wpAny (model P w) (A.deeper (PySem.W.ksEnv qual scope s.heap.objs.size f (.ref cda) cc)) (leaving (PySem.W.ksEnv qual scope s.heap.objs.size f (.ref cda) cc) e) (fun _ s'' => CX outer H s E e s'') (fun e' s'' => CX outer H s E e' s'') s'
theorem lookup_mem {l : List (Str × Value)} (hn : (l.map (·.1)).Nodup) {x : Str} {u : Value} (h : (x, u) ∈ l) : l.lookup x = some u := by
  induction l with
  | nil => cases h
  | cons p l ih =>
    obtain ⟨y, v⟩ := p
    obtain ⟨h1, h2⟩ := List.nodup_cons.mp (show (y :: l.map (·.1)).Nodup from hn)
    rcases List.mem_cons.mp h with q | q
    · cases q
      simp [List.lookup]
    · have ne : x ≠ y := fun e => h1 (List.mem_map.mpr ⟨(x, u), q, e⟩)
      rw [List.lookup_cons, show (x == y) = false by simpa using ne]
      exact ih h2 q
theorem zip_fst : ∀ {ps : List Str} {us : List Value}, ps.length = us.length → (ps.zip us).map (·.1) = ps
  | [], [], _ => rfl
  | _ :: _, [], h => by cases h
  | [], _ :: _, h => by cases h
  | p :: ps, u :: us, h => by
    show p :: (ps.zip us).map (·.1) = p :: ps
    rw [zip_fst (by simpa using h)]
theorem lookup_rev_zip {ps : List Str} {us : List Value} {i : Nat} {x : Str} {u : Value} (hn : ps.Nodup) (hl : ps.length = us.length) (h1 : ps[i]? = some x) (h2 : us[i]? = some u) : (ps.zip us).reverse.lookup x = some u := by
  refine lookup_mem (by rw [List.map_reverse, zip_fst hl]; exact List.pairwise_reverse.mpr (hn.imp fun h => Ne.symm h)) (List.mem_reverse.mpr ?_)
  refine List.mem_of_getElem? (i := i) ?_
  rw [List.getElem?_zip_eq_some]
  exact ⟨h1, h2⟩
theorem inv_startS {CX : CXT} {P : Program} {w : World} {K : PySem.W.Frag} {mg : Str → Option Value} {base : Heap} {N ps : List Str} {x qual : Str} {params : Arguments} {body : List Stmt} {scope : Scope} {file : Str} {D f : Addr} {fd : FuncData} {cda cc : Addr} {A : Around} {outer : List Env} {s : Shared} {h₀ : Heap} {H : Hp} {E : XK} {us : List Value} {vs : List V}
    (F : FunS K x qual params body scope file D f fd cda cc) (S : FsScope N ps scope) (hd : A.handled = none) (e0 : Env0 P w K mg base A outer s H) (hl : vs.length = ps.length) (r : Vals vs us)
    (hns : h₀.Ns s.heap.objs.size (fun y => (ps.zip us).reverse.lookup y)) (keep : ∀ b o, s.heap.get? b = some o → h₀.get? b = some o) (tk : Nat) :
    Inv (cxS CX P w K mg base N qual scope f cda cc A outer s H E) [] (L2.start N vs) H { s with heap := h₀, toks := tk } := by
  have hpl : ps.length ≤ N.length := by have := congrArg List.length S.pre; rw [List.length_take] at this; omega
  obtain ⟨cl, cld, csl, hcell⟩ := F.cell
  have hccb := e0.mod.kin _ _ hcell
  have kfr : ∀ x c, List.lookup x [(("__class__" : Str), cc)] = some c → x = ("__class__" : Str) ∧ c = cc := fun x c h => by
    rw [List.lookup_cons] at h
    cases q : x == ("__class__" : Str) with
    | true => rw [q] at h; exact ⟨by simpa using q, (Option.some.inj h).symm⟩
    | false => rw [q] at h; cases h
  have noA : ∀ b : Addr, b ∉ (cxS CX P w K mg base N qual scope f cda cc A outer s H E).ex := fun b z => absurd (show b ∈ ([] : List Addr) from z) (by simp)
  refine ⟨⟨e0.mod, S.kind, rfl, rfl, Nat.le_refl _, fun y z c h1 h2 => ?_, fun y hy => ?_, fun y c h _ => ?_, fun _ => hd, Around.frames_deeper e0.frames, .inr ⟨rfl, rfl⟩, fun b z => absurd z (noA b), e0.bs, e0.bsz, fun b _ _ => noA b, fun b z => absurd z (noA b), e0.funs, e0.frf⟩,
    rfl, e0.bare, Un.kept keep, ⟨_, hns, fun i y v h1 h2 h3 => ?_⟩, fun y c h => ?_, e0.hok.fresh (Nat.le_refl _), fun y c h => ?_, fun p hp => absurd (show p ∈ ([] : List (Addr × Obj)) from hp) (by simp), e0.hok.kept keep, ?_⟩
  · exact (kfr y c h1).1.trans (kfr z c h2).1.symm
  · have hy : scope.names.lookup y = some .cell ∨ scope.names.lookup y = some .free := hy
    rcases hy with hy | hy
    · exact absurd rfl (S.nocell _ (PySem.mem_of_lookup hy))
    · have e := S.free _ (PySem.mem_of_lookup hy) rfl
      have e' : y = ("__class__" : Str) := e
      subst e'
      exact ⟨cc, by show List.lookup _ [(("__class__" : Str), cc)] = _; simp [List.lookup]⟩
  · exact Bool.noConfusion h
  · have hi : i < vs.length := by
      unfold L2.start at h2
      by_cases hi : i < vs.length
      · exact hi
      · rw [List.getElem?_append_right (by simpa using hi)] at h2
        rw [List.getElem?_replicate] at h2
        split at h2 <;> cases h2
    have ha : vs[i]? = some v := by
      unfold L2.start at h2
      rw [List.getElem?_append_left (by simpa using hi), List.getElem?_map] at h2
      cases e : vs[i]? with
      | none => rw [e] at h2; cases h2
      | some a => rw [e] at h2; cases h2; rfl
    obtain ⟨u, hu, rv⟩ := r.get ha
    have hp : ps[i]? = some y := by
      rw [← S.pre, List.getElem?_take_of_lt (by omega)]; exact h1
    have ndP : ps.Nodup := by rw [← S.pre]; exact S.nd.sublist (List.take_sublist _ _)
    exact ⟨u, rv, .inl ⟨S.par y (List.mem_of_getElem? hp), lookup_rev_zip ndP (by rw [← hl, r.length]) hp hu⟩⟩
  · obtain ⟨_, rfl⟩ := kfr y c h
    exact ⟨_, _, keep _ _ ((e0.bs _ _ hccb).1), rfl⟩
  · obtain ⟨_, rfl⟩ := kfr y c h
    exact (e0.bs _ _ hccb).2
  · unfold L2.start
    show _ = N.length
    rw [List.length_append, List.length_map, List.length_replicate]
    omega
structure PSA (X : Cx) (fb st : List Stmt) (t : TS) : Prop where
  run : ∀ (pins : List (Addr × Obj)) (s : Shared) (σ : L2.St) (H : Hp) (D : Ends), Inv X pins σ H s → t D σ H → _root_.PySem.wpAt (model X.prog X.w) X.A (.func fb X.env) (execs st X.env) (SP X pins D) X.xe s
section
variable {X : Cx} {fb rest : List Stmt} {e : Expr} {te : TE} {u : TS} {pos : Pos}
end
theorem FunS.ok {P : Program} {w : World} {K : PySem.W.Frag} {mg : Str → Option Value} {base : Heap} {x qual : Str} {params : Arguments} {body : List Stmt} {scope : Scope} {file : Str} {D f : Addr} {fd : FuncData} {cda cc : Addr} {CX : CXT} {N ps : List Str} {k : Nat} {sp : Sp}
    (F : FunS K x qual params body scope file D f fd cda cc) (S : FsScope N ps scope) (len : ∀ vs H Q E, sp vs H Q E → vs.length = ps.length)
    (hbody : ∀ (A : Around) (outer : List Env) (s : Shared) (H : Hp) (vs : List V) (Q : VK) (E : XK), Room k (A.deeper (PySem.W.ksEnv qual scope s.heap.objs.size f (.ref cda) cc)) → sp vs H Q E →
      ∃ t, PSA (cxS CX P w K mg base N qual scope f cda cc A outer s H E) body body t ∧ t { nx := fun _ H' => Q .non H', rt := Q } (L2.start N vs) H) : FnOk P w K mg base CX (k + 1) f fd ps sp := by
  obtain ⟨oc, od, kV, doc, pm, an, ct, osl, rfl, lk⟩ := F.fn
  refine ⟨len, fun A outer s H args us vs Q E hr e0 hb r hsp => ?_⟩
  have hl := len _ _ _ _ hsp
  have KX : K.In s.heap := e0.mod.kin.keeps fun b o e => (e0.bs b o e).1
  have lim : s.heap.NoLimit := e0.mod.nolimit.keeps fun b o e => (e0.bs b o e).1
  refine ks_codeAny_call_defAt (fd := PySem.W.ksFn x qual params body scope .none kV doc pm an (.ref cda) ct cc) (body := body) (binds := ps.zip us) hr.depth (KX _ _ lk) rfl lim (PySem.W.codeRec_of KX F.co) rfl hb S.nocell (fun y hy => S.par y.1 (List.of_mem_zip hy).1) (fun h₀ hns keep => ?_) S.co S.gen S.kind
  obtain ⟨t, ht, hq⟩ := hbody A outer s H vs Q E (hr.deeper _) hsp
  have I := inv_startS (CX := CX) (E := E) F S hr.hd e0 hl r hns keep (s.toks + (ps.zip us).length)
  refine _root_.PySem.wpAt_mono (ht.run [] _ (L2.start N vs) H _ I hq) (fun fl s' hs => ?_) fun e s' hs => hs
  have fin : ∀ {σ' : L2.St} {H' : Hp} {v : V} {u : Value}, Inv (cxS CX P w K mg base N qual scope f cda cc A outer s H E) [] σ' H' s' → RelV v u → Q v H' → CE outer P w H s Q u s' :=
    fun {σ' H' v u} J rv q => ⟨v, H', J.os, J.bare, J.base, J.hok, rv, q⟩
  cases fl with
  | ret u =>
    obtain ⟨v, σ', H', J, rv, q⟩ := hs
    exact fin J rv q
  | next =>
    obtain ⟨σ', H', J, q⟩ := hs
    exact fin (v := V.non) (u := Value.none) J rfl q
  | brk =>
    obtain ⟨_, _, _, q⟩ := hs
    exact False.elim q
  | cont =>
    obtain ⟨_, _, _, q⟩ := hs
    exact False.elim q
section
variable {CX : CXT} {P : Program} {w : World} {K : PySem.W.Frag} {mg : Str → Option Value} {base : Heap} {N ps : List Str} {x qual : Str} {params : Arguments} {body : List Stmt} {scope : Scope} {file : Str} {D f : Addr} {fd : FuncData} {cda cc : Addr} {A : Around} {outer : List Env} {s0 : Shared} {H0 : Hp} {E0 : XK}
  {pins : List (Addr × Obj)} {σ : L2.St} {H : Hp} {s : Shared} {fb : List Stmt} {E : Value → Shared → Prop}
end
end Mu

namespace Mu
open PySem PySem.Spec PyProof.Rows L2 He
section
variable {fa : List Fa} {ex : List FactB} {fn : List DefD} {sn : List DefS} {K : PySem.W.Frag}
theorem SaysS.all (c : SaysS fa ex fn sn K) : ((((fa.all fun f => f.ok K) && ex.all fun f => f K) && fn.all fun d => d.ok K) && sn.all fun d => d.ok K) = true := congrArg (fun z : AlS => z.1) c
theorem SaysS.fact (c : SaysS fa ex fn sn K) (i : Nat) {f : Fa} (h : fa[i]? = some f := by rfl) : f.ok K = true := List.all_eq_true.mp (ba (ba (ba c.all).1).1).1 f (List.mem_of_getElem? h)
theorem SaysS.def_ (c : SaysS fa ex fn sn K) (i : Nat) {d : DefD} (h : fn[i]? = some d := by rfl) : ∃ fd, FunD K d.name d.qual d.params d.body d.scope (d.dvs K) (d.kws K) (fAd K d.at_) fd := by
  have c2 := (ba (ba c.all).1).2
  have e : fn.map (fun d => fnW K d.at_) = fn.map DefD.val := congrArg (fun z : AlS => z.2.1) c
  have e2 : (fn.map fun d => fnW K d.at_)[i]? = (fn.map DefD.val)[i]? := by rw [e]
  rw [List.getElem?_map, List.getElem?_map, h] at e2
  exact DefD.funD (Option.some.inj e2) (List.all_eq_true.mp c2 d (List.mem_of_getElem? h))
end
end Mu

namespace Mu
open PySem PySem.Spec PyProof.Rows L2 Evl
section
variable {prog : Program} {w : World} {A : Around} {E : Value → Shared → Prop} {s : Shared}
end
section
variable {X : Cx}
end
end Mu

namespace Mu
open PySem PySem.Spec PyProof.Rows L2 Evl
section
variable {X : Cx} {CX : CXT} {k : Nat} {f : Addr} {fd : FuncData} {ps : List Str} {sp : Addr × Obj → Sp} {E : L2.St → XK} {x : Str} {q pos : Pos} {e : Expr} {es : List Expr} {t : TA} {p : Addr × Obj}
end
section
variable {Γ : Ctx} {M : List Re} {te : TE} {K : PySem.W.Frag} {a C D : Addr} {fs : List (Str × V)} {d : Option Addr} {v c : V} {cv : Value} {b : Bool} {f : Str}
end
abbrev Out := Rp ⊕ (Value × List (Str × V))
section
variable {W : WX} {Γ : Ctx} {M : List Re} {te : TE} {ta : TA} {o : Out} {rs : List Rp} {κ : Kn} {i : Nat} {R : List V → Hp → Out → Prop} {K : PySem.W.Frag}
end
end Mu

namespace Mu
open PySem PySem.Spec PyProof.Rows L2 Evl
def EXD {α : Type} (Γ : Ctx) (M : List Re) (te : TE) (D : α → Prop) (f : α → Rp) : Prop := EX Γ M te (fun r M' => (∃ a, D a ∧ r = f a) ∧ M' = M)
section
variable {α : Type} {D : α → Prop} {W : WX} {Γ : Ctx} {M : List Re} {te ta tb tl : TE} {t u : TT} {r r1 : Rp} {rs : List Rp} {K : PySem.W.Frag} {C b : Addr} {i j k m n : Nat} {x : V} {E : XK} {κ : Kn} {tu tw : TS}
theorem d_take (hk : M[k]? = some (boxR K b)) (hv : Γ[i]? = some (some (rV (.ref b)))) (h : EvX Γ te (nI m)) (h0 : 0 < m) (h1 : m < 2 ^ 30) : EXD Γ M (tCall (spT K) [] E (tCons (tVar i) (tCons te tNil))) (fun d : Nat => d < m) nI := e_take hk hv h h0 h1
end
end Mu

namespace Mu
open PySem PySem.Spec PyProof.Rows L2 Evl
def rInTD (K : PySem.W.Frag) : R2 := fun x y H Q => ∃ d ds, Dp K H x d ∧ Dp K H y (.tuple ds) ∧ SeqAt.shaped d = true ∧ SeqAt.shaped (.tuple ds) = true ∧ Q (.bl (ds.any fun z => PyData.eqv z d)) H
section
variable {Γ : Ctx} {M : List Re} {te ta tb tc tl : TE} {r r1 r2 : Rp} {rs : List Rp} {K : PySem.W.Frag} {C b : Addr} {i j k m n : Nat} {v w x y : V} {E : XK} {sp : Sp} {α : Type} {D : α → Prop}
theorem x_inTP {p : Nat × Nat} {l : List (Nat × Nat)} (ha : EvX Γ ta (rP K p)) (hb : EvX Γ tb (rT K (l.map (rP K)))) : EvX Γ (tOp (rInTD K) ta tb) (rB (decide (p ∈ l))) := fun σ G en =>
  Ev.d (ev_op2 (ha σ G en) (hb σ G en) fun x y H hx hy Q q => ⟨dP p, l.map dP, asd_p p x H hx, asd_tup asd_p l y H hy, (sh_p p).ok (by decide), (sh_tup sh_p l).ok (by decide), by rw [any_p]; exact q⟩)
theorem o_no {σ : L2.St} {G : Hp} : EvO tNoPart σ G none := fun H e Q q => q H (Ex.refl _)
theorem EvX.s (h : EvX Γ te (rL K rs)) : EvX Γ te (rLs K rs) := fun σ G en H e Q q => h σ G en H e Q fun v G2 H2 g hv => q v G2 H2 g (by
  obtain ⟨a, vs, rfl, h1, h2⟩ := hv
  exact ⟨a, vs, rfl, sq_of h1, h2⟩)
end
section
variable {Γ : Ctx} {te ta tb : TE} {r r1 : Rp} {K : PySem.W.Frag} {n : Nat} {a : Int}
theorem x_neg (h : EvX Γ te (rI a)) : EvX Γ (tUn (rU fun i => .int (-i)) te) (rI (-a)) := fun σ G en H e Q q => h σ G en H e _ fun v G2 H2 g hv => by
  obtain rfl : v = V.int a := hv
  exact ⟨a, rfl, q _ G2 H2 g rfl⟩
end
end Mu

namespace Mu
open PySem PySem.Spec PyProof.Rows L2 Evl
section
variable {X : Cx} {CX : CXT} {k : Nat} {f C : Addr} {fd : FuncData} {ps : List Str} {sp : Sp} {E : L2.St → XK} {a b : Expr} {ta tb : TE} {pos : Pos}
end
section
variable {W : WX} {Γ : Ctx} {M : List Re} {ta tb : TE} {t1 t2 : TS} {o : Out} {κ : Kn} {R : List V → Hp → Out → Prop} {K : PySem.W.Frag} {C : Addr} {m m' : List Nat}
end
end Mu

namespace Mu
open PySem PySem.Spec PyProof.Rows L2 Evl
section
variable {B : Ba} {G H G2 H2 : Hp} {M : List Re} {R : Re}
theorem Ok.add2 (o : Ok B G H M) (o2 : Ok B G2 H2 M) (hd : R.ft.Nodup) (hn : ∀ a ∈ R.ft, H a = none ∧ G2 a = none) (m : R.p G2 H2) : Ok B G2 H2 (M ++ [R]) := by
  refine ⟨o2.g, o2.l, o2.h, o2.i, o2.n, o2.k, fun r hr => ?_, fun a ha => ?_, ?_, fun r hr a ha => ?_⟩
  · rcases List.mem_append.mp hr with q | q
    · exact o2.m r q
    · rw [List.mem_singleton.mp q]; exact m
  · rw [feet_snoc] at ha
    rcases List.mem_append.mp ha with q | q
    · exact o2.z a q
    · exact (hn a q).2
  · rw [feet_snoc]
    refine List.nodup_append.mpr ⟨o.d, hd, fun a ha b hb e => ?_⟩
    subst e
    obtain ⟨r, hr, hf⟩ := List.mem_flatMap.mp ha
    obtain ⟨u, z, t⟩ := r.at_ (o.m r hr) a hf
    rw [(hn a hb).1] at z; cases z
  · rcases List.mem_append.mp hr with q | q
    · exact o.f r q a ha
    · rw [List.mem_singleton.mp q] at ha
      refine .inl ?_
      cases z : B.H0 a with
      | none => rfl
      | some u =>
        by_cases c : a ∈ B.F
        · obtain ⟨u2, z2, t2⟩ := o.k a c
          rw [(hn a ha).1] at z2; cases z2
        · have := o.h a u z c
          rw [(hn a ha).1] at this; cases this
end
section
variable {α : Type} {D : α → Prop} {W : WX} {Γ : Ctx} {M : List Re} {te ta tb tl : TE} {rs : List Rp} {K : PySem.W.Frag} {b : Addr} {i j k m n : Nat} {E : XK} {κ : Kn} {p : Addr}
end
end Mu

namespace Mu
open PySem PySem.Spec PyProof.Rows L2 Evl
section
variable {α β : Type} {K : PySem.W.Frag} {σ : L2.St} {G H : Hp} {te tl : TE} {t : TT} {D : Ends} {tu : TS} {vs : List Nat} {j1 j2 : Nat}
end
section
variable {W : WX} {Γ : Ctx} {M : List Re} {te tl : TE} {t : TT} {tu : TS} {κ : Kn} {K : PySem.W.Frag} {α β : Type} {j1 j2 j3 : Nat} {r1 r2 r3 : Rp}
end
end Mu

namespace Mu
open PySem PySem.Spec PyProof.Rows L2 Evl
section
variable {α : Type} {D : α → Prop} {W : WX} {Γ : Ctx} {M : List Re} {te ta tb tl : TE} {K : PySem.W.Frag} {b : Addr} {i j k m n : Nat} {κ : Kn} {vs : List Nat} {f : α → Rp}
end
end Mu

namespace Mu
open PySem PySem.Spec PyProof.Rows L2 Evl
section
variable {α : Type} {D : α → Prop} {W : WX} {Γ : Ctx} {M : List Re} {te ta tb tc tl : TE} {rs : List Rp} {K : PySem.W.Frag} {b p : Addr} {i j k m n : Nat} {κ : Kn} {a c : Int}
theorem RA.rev {H : Hp} : ∀ {vs : List V} {rs : List Rp}, RA H vs rs → RA H vs.reverse rs.reverse
  | _, _, .nil => .nil
  | _, _, .cons h t => by
    rw [List.reverse_cons, List.reverse_cons]
    exact (RA.rev t).append (.cons h .nil)
theorem ints_flatI (l : List Int) : (l.map V.int).all flatV = true := by
  rw [List.all_map]
  exact List.all_eq_true.mpr fun _ _ => rfl
theorem inV_int (w : Int) (l : List Int) : inV (.int w) (l.map V.int) = decide (w ∈ l) := by
  unfold inV
  rw [List.any_map, Bool.eq_iff_iff, List.any_eq_true, decide_eq_true_iff]
  constructor
  · rintro ⟨x, hx, h⟩
    have : x = w := by
      have h2 : eqV (.int x) (.int w) = true := h
      simpa [eqV] using h2
    rw [← this]; exact hx
  · intro h
    exact ⟨w, h, by simp [eqV]⟩
theorem x_inLi {l : List Int} (neg : Bool) (ha : EvX Γ ta (rI a)) (hb : EvX Γ tb (rL K (l.map rI))) : EvX Γ (tOp (rIn K neg) ta tb) (rB (if neg then !decide (a ∈ l) else decide (a ∈ l))) := fun σ G en =>
  Ev.d (ev_op2 (ha σ G en) (hb σ G en) fun x y H hx hy Q q => by
    obtain rfl : x = V.int a := hx
    obtain ⟨p, vs, rfl, h1, h2⟩ := hy
    have e := ra_ints_eq h2
    subst e
    exact ⟨p, _, rfl, .inl (sq_of h1), rfl, ints_flatI l, by rw [inV_int]; exact q⟩)
theorem t_chain {p p' : Int → Int → Bool} {a b c : Int} (ha : EvX Γ ta (rI a)) (hb : EvX Γ tb (rI b)) (hc : EvX Γ tc (rI c)) : EvTX Γ (tTest (tChain (rI0 fun i j => .bl (p i j)) (rI0 fun i j => .bl (p' i j)) ta tb tc)) (p a b && p' b c) := fun σ G en H e Q q =>
  ha σ G en H e _ fun x G2 H2 g2 hx => hb σ G2 (en.mono g2.g) H2 g2.i _ fun y G3 H3 g3 hy => by
    obtain rfl : x = V.int a := hx
    obtain rfl : y = V.int b := hy
    refine ⟨a, b, rfl, rfl, p a b, rfl, ?_⟩
    cases z : p a b with
    | false =>
      rw [if_neg (by decide)]
      refine ⟨false, rfl, ?_⟩
      have := q H3 (g2.h.trans g3.h)
      rwa [z] at this
    | true =>
      rw [if_pos rfl]
      refine hc σ G3 (en.mono (g2.g.trans g3.g)) H3 g3.i _ fun w G4 H4 g4 hw => ?_
      obtain rfl : w = V.int c := hw
      refine ⟨b, c, rfl, rfl, p' b c, rfl, ?_⟩
      have := q H4 ((g2.h.trans g3.h).trans g4.h)
      rwa [z, Bool.true_and] at this
end
section
variable {α : Type} {D : α → Prop} {W : WX} {Γ : Ctx} {M : List Re} {t : TS} {tt u : TT} {te : TE} {G H : Hp} {σ : L2.St} {Q : VK} {K : PySem.W.Frag} {b : Addr} {i k m : Nat} {E : XK}
theorem run_BN {P : List Rp → Prop} (w : WP W Γ [boxR K b] t { nx := fun _ _ => False, rt := fun r' M' => ∃ rs p, P rs ∧ r' = rV (.ref p) ∧ M' = [boxR K b, lstR p rs] }) (e : Ex G H) (gb : G b = none) (hb : Box K G H b) (en : En σ G Γ) (k : ∀ rs p vs G2 H2, P rs → GrB b G H G2 H2 → Box K G2 H2 b → H p = none → G2 p = none → H2 p = some (.lst vs) → RA G2 vs rs → Q (.ref p) H2) : t { nx := fun _ H' => Q .non H', rt := Q } σ H :=
  w _ G H σ _ (Ok.box e gb hb) en ⟨fun _ _ _ _ _ _ _ z => z.elim, fun v G' H' r' M' o hv z => by
    obtain ⟨rs, p, hP, rfl, rfl⟩ := z
    obtain rfl : v = V.ref p := hv
    have hm : lstR p rs ∈ [boxR K b, lstR p rs] := by simp
    obtain ⟨ws, h1, h2⟩ := o.m (lstR p rs) hm
    have hp : H p = none := by
      rcases o.f (lstR p rs) hm p (List.mem_singleton.mpr rfl) with q | q
      · exact q
      · exact nomatch q.1
    exact k rs p ws G' H' hP o.toB (o.m (boxR K b) List.mem_cons_self) hp (o.z p (mem_feet hm (List.mem_singleton.mpr rfl))) h1 h2, fun _ _ _ _ _ _ _ z => z.elim, fun _ _ _ _ _ _ _ z => z.elim, fun _ _ _ _ _ _ _ _ _ _ _ z => z.elim⟩
end
end Mu

namespace Mu
open PySem PySem.Spec PyProof.Rows L2 Evl
abbrev KV := Rp → List Re → Prop
abbrev KX := Value → List (Str × V) → List Re → Prop
def Go (B : Ba) (G : Hp) (κ : KV) (Q : VK) : Prop := ∀ v G' H' r M', κ r M' → Ok B G' H' M' → Ex G G' → r.p v G' → Q v H'
def GoX (B : Ba) (G : Hp) (ε : KX) (W : WX) (σ : L2.St) : Prop := ∀ cls fs d G' H' M', ε cls fs M' → Ok B G' H' M' → Ex G G' → XdOk G' fs d → W cls d σ H'
def EW (W : WX) (Γ : Ctx) (M : List Re) (te : TE) (κ : KV) (ε : KX) : Prop := ∀ B G H σ, Ok B G H M → En σ G Γ → ∀ Q : VK, Go B G κ Q → GoX B G ε W σ → te σ H Q
def EA (W : WX) (Γ : Ctx) (M : List Re) (ta : TA) (κ : List Rp → List Re → Prop) (ε : KX) : Prop := ∀ B G H σ, Ok B G H M → En σ G Γ → ∀ Q : List V → Hp → Prop, (∀ vs G' H' rs M', κ rs M' → Ok B G' H' M' → Ex G G' → RA G' vs rs → Q vs H') → GoX B G ε W σ → ta σ H Q
def ET (W : WX) (Γ : Ctx) (M : List Re) (t : TT) (κ : Bool → List Re → Prop) (ε : KX) : Prop := ∀ B G H σ, Ok B G H M → En σ G Γ → ∀ Q : Bool → Hp → Prop, (∀ c G' H' M', κ c M' → Ok B G' H' M' → Ex G G' → Q c H') → GoX B G ε W σ → t σ H Q
def OM (rr : R2) (r1 r2 : Rp) (M : List Re) (κ : KV) : Prop := ∀ B G H x y, Ok B G H M → r1.p x G → r2.p y G → ∀ Q : VK, Go B G κ Q → rr x y H Q
def UM (rr : V → Hp → VK → Prop) (r1 : Rp) (M : List Re) (κ : KV) : Prop := ∀ B G H x, Ok B G H M → r1.p x G → ∀ Q : VK, Go B G κ Q → rr x H Q
def AM (rr : List V → Hp → VK → Prop) (rs : List Rp) (M : List Re) (κ : KV) : Prop := ∀ B G H vs, Ok B G H M → RA G vs rs → ∀ Q : VK, Go B G κ Q → rr vs H Q
def CM (sp : Sp) (rs : List Rp) (M : List Re) (κ : KV) : Prop := ∀ E, AM (fun vs H Q => sp vs H Q E) rs M κ
def XM (sp : Sp) (rs : List Rp) (M : List Re) (κ : KV) (ε : KX) : Prop := ∀ B G H vs W σ, Ok B G H M → RA G vs rs → ∀ Q : VK, Go B G κ Q → GoX B G ε W σ → sp vs H Q (fun cls d H' => W cls d σ H')
section
variable {W : WX} {Γ : Ctx} {M : List Re} {te ta tb tc tl : TE} {t u : TT} {r r1 r2 r3 : Rp} {rs ss : List Rp} {K : PySem.W.Frag} {C : Addr} {i j : Nat} {v w x y : V} {m n : Nat} {E : XK} {sp : Sp} {κ : KV} {ε : KX} {B : Ba} {G G1 H : Hp} {Q : VK} {σ : L2.St} {rr : R2}
theorem Go.up (q : Go B G κ Q) (e : Ex G G1) : Go B G1 κ Q := fun v G' H' r M' k o e' hv => q v G' H' r M' k o (e.trans e') hv
theorem GoX.up (q : GoX B G ε W σ) (e : Ex G G1) : GoX B G1 ε W σ := fun c f d G' H' M' k o e' hv => q c f d G' H' M' k o (e.trans e') hv
theorem e_v (h : Γ[i]? = some (some r)) (k : κ r M) : EW W Γ M (tVar i) κ ε := fun B G H σ o en Q q _ => by
  obtain ⟨v, h1, h2⟩ := en.get h
  exact ⟨v, h1, q v G H r M k o (Ex.refl _) h2⟩
theorem e_c (k : κ (rV v) M) : EW W Γ M (tC v) κ ε := fun B G H σ o en Q q _ => q v G H (rV v) M k o (Ex.refl _) rfl
theorem e_x (h : EvX Γ te r) (k : κ r M) : EW W Γ M te κ ε := fun B G H σ o en Q q _ => h σ G en H o.i Q fun v G2 H2 g hv => q v G2 H2 r M k (o.gr g) g.g hv
theorem e_xn (K : PySem.W.Frag) (h : EvNX Γ te rs) (k : κ (rL K rs) M) : EW W Γ M te κ ε := e_x (EvNX.d (K := K) h) k
theorem EvX.by (h : ∀ W ε, EW W Γ [] te (fun r' M' => r' = r ∧ M' = []) ε) : EvX Γ te r := fun σ G en H e Q q => h (fun _ _ _ _ => True) (fun _ _ _ => False) ⟨G, H, [], G⟩ G H σ (Ok.nil e) en Q (fun v G' H' r' M' z o _ hv => by
    obtain ⟨rfl, rfl⟩ := z
    exact q v G' H' o.to hv) (fun _ _ _ _ _ _ z => z.elim)
theorem e_op (h : EW W Γ M ta (fun r1 M1 => EW W Γ M1 tb (fun r2 M2 => OM rr r1 r2 M2 κ) ε) ε) : EW W Γ M (tOp rr ta tb) κ ε := fun B G H σ o en Q q x =>
  h B G H σ o en _ (fun v1 G1 H1 r1 M1 h1 o1 e1 hv1 => h1 B G1 H1 σ o1 (en.mono e1) _ (fun v2 G2 H2 r2 M2 h2 o2 e2 hv2 => h2 B G2 H2 v1 v2 o2 (r1.mono e2 hv1) hv2 Q (q.up (e1.trans e2))) (x.up e1)) x
theorem e_un {rr : V → Hp → VK → Prop} (h : EW W Γ M ta (fun r1 M1 => UM rr r1 M1 κ) ε) : EW W Γ M (tUn rr ta) κ ε := fun B G H σ o en Q q x =>
  h B G H σ o en _ (fun v1 G1 H1 r1 M1 h1 o1 e1 hv1 => h1 B G1 H1 v1 o1 hv1 Q (q.up e1)) x
theorem a_nil {κ : List Rp → List Re → Prop} (k : κ [] M) : EA W Γ M tNil κ ε := fun B G H σ o en Q q _ => q [] G H [] M k o (Ex.refl _) .nil
theorem a_cons {κ : List Rp → List Re → Prop} {tr : TA} (h : EW W Γ M ta (fun r1 M1 => EA W Γ M1 tr (fun rs M2 => κ (r1 :: rs) M2) ε) ε) : EA W Γ M (tCons ta tr) κ ε := fun B G H σ o en Q q x =>
  h B G H σ o en _ (fun v1 G1 H1 r1 M1 h1 o1 e1 hv1 => h1 B G1 H1 σ o1 (en.mono e1) _ (fun vs G2 H2 rs M2 h2 o2 e2 ra => q (v1 :: vs) G2 H2 (r1 :: rs) M2 h2 o2 (e1.trans e2) (.cons (r1.mono e2 hv1) ra)) (x.up e1)) x
theorem e_call {ta : TA} (h : EA W Γ M ta (fun rs M1 => CM sp rs M1 κ) ε) : EW W Γ M (tCall sp [] E ta) κ ε := fun B G H σ o en Q q x =>
  h B G H σ o en _ (fun vs G1 H1 rs M1 h1 o1 e1 ra => by
    rw [List.append_nil]
    exact h1 E B G1 H1 vs o1 ra Q (q.up e1)) x
theorem e_callS {ta : TA} (h : EA W Γ M ta (fun rs M1 => XM sp rs M1 κ ε) ε) : EW W Γ M (tCallS sp (WE W) ta) κ ε := fun B G H σ o en Q q x =>
  h B G H σ o en _ (fun vs G1 H1 rs M1 h1 o1 e1 ra => h1 B G1 H1 vs W σ o1 ra Q (q.up e1) (x.up e1)) x
theorem e_cb {ta : TA} {rr : List V → Hp → VK → Prop} (h : EA W Γ M ta (fun rs M1 => AM rr rs M1 κ) ε) : EW W Γ M (tCB rr ta) κ ε := fun B G H σ o en Q q x =>
  h B G H σ o en _ (fun vs G1 H1 rs M1 h1 o1 e1 ra => h1 B G1 H1 vs o1 ra Q (q.up e1)) x
theorem e_tup (K : PySem.W.Frag) {ta : TA} (h : EA W Γ M ta (fun rs M1 => rs.length ≤ 100000 ∧ κ (rT K rs) M1) ε) : EW W Γ M (tTup ta) κ ε := fun B G H σ o en Q q x =>
  h B G H σ o en _ (fun vs G1 H1 rs M1 h1 o1 e1 ra => ⟨sz_of (by rw [ra.len]; exact h1.1), fun p hp => by
    have g3 := Gr.new (o := .tup vs) o1.i hp
    exact q (.ref p) _ _ (rT K rs) M1 h1.2 (o1.gr g3) (e1.trans g3.g) ⟨p, vs, rfl, st_of upd_same, ra.mono g3.g⟩⟩) x
theorem e_lst (K : PySem.W.Frag) {ta : TA} (h : EA W Γ M ta (fun rs M1 => rs.length ≤ 100000 ∧ κ (rL K rs) M1) ε) : EW W Γ M (tLst ta) κ ε := fun B G H σ o en Q q x =>
  h B G H σ o en _ (fun vs G1 H1 rs M1 h1 o1 e1 ra => ⟨sz_of (by rw [ra.len]; exact h1.1), fun p hp => by
    have g3 := Gr.new (o := .lst vs) o1.i hp
    exact q (.ref p) _ _ (rL K rs) M1 h1.2 (o1.gr g3) (e1.trans g3.g) ⟨p, vs, rfl, upd_same, ra.mono g3.g⟩⟩) x
theorem e_lstN {ta : TA} (h : EA W Γ M ta (fun rs M1 => rs.length ≤ 100000 ∧ ∀ p, κ (rV (.ref p)) (M1 ++ [lstR p rs])) ε) : EW W Γ M (tLst ta) κ ε := fun B G H σ o en Q q x =>
  h B G H σ o en _ (fun vs G1 H1 rs M1 h1 o1 e1 ra => ⟨sz_of (by rw [ra.len]; exact h1.1), fun p hp => by
    have gp := fresh_back o1.i hp
    have g3 := Gr.out (o := .lst vs) o1.i hp
    exact q (.ref p) _ _ (rV (.ref p)) _ (h1.2 p) (o1.add (R := lstR p rs) g3 (show [p].Nodup by simp) (fun a ha => by rw [List.mem_singleton.mp ha]; exact ⟨hp, gp⟩) ⟨vs, upd_same, ra⟩) e1 rfl⟩) x
theorem e_fld (f : Str) (h : EW W Γ M ta (fun r1 M1 => UM (fun x H1 Q => ∃ a C dx fs v, x = .ref a ∧ H1 a = some (.ins C dx fs) ∧ Cls K C ∧ NoAttr K C f ∧ fs.lookup f = some v ∧ Q v H1) r1 M1 κ) ε) : EW W Γ M (tFld K ta f) κ ε := fun B G H σ o en Q q x =>
  h B G H σ o en _ (fun v1 G1 H1 r1 M1 h1 o1 e1 hv1 => h1 B G1 H1 v1 o1 hv1 Q (q.up e1)) x
theorem e_make {ta : TA} (h : EA W Γ M ta (fun rs M1 => AM (fun vs H1 Q => ∀ x dx, H1 x = none → H1 dx = none → dx ≠ x → sp (.ref x :: (vs ++ [])) (upd (upd H1 dx (.own x)) x (.ins C dx [])) (fun v H2 => v = .non ∧ Q (.ref x) H2) E) rs M1 κ) ε) : EW W Γ M (tMake C sp [] E ta) κ ε := fun B G H σ o en Q q x =>
  h B G H σ o en _ (fun vs G1 H1 rs M1 h1 o1 e1 ra => h1 B G1 H1 vs o1 ra Q (q.up e1)) x
def InsR (C : Addr) (f : Str) (r : Rp) : Prop := ∀ v G, r.p v G → ∃ a dx fs, v = .ref a ∧ G a = some (.ins C dx fs) ∧ fs.lookup f = none
theorem e_meth {ta : TA} {f : Str} (h : EW W Γ M te (fun r0 M0 => InsR C f r0 ∧ EA W Γ M0 ta (fun rs M1 => CM sp (r0 :: rs) M1 κ) ε) ε) : EW W Γ M (tMeth C f sp [] E te ta) κ ε := fun B G H σ o en Q q x =>
  h B G H σ o en _ (fun v0 G0 H0 r0 M0 h0 o0 e0 hv0 => by
    obtain ⟨hi, h1⟩ := h0
    obtain ⟨a, dx, fs, rfl, h2, h3⟩ := hi _ _ hv0
    refine ⟨a, dx, fs, rfl, o0.i _ _ h2, h3, h1 B G0 H0 σ o0 (en.mono e0) _ (fun vs G1 H1 rs M1 k1 o1 e1 ra => ?_) (x.up e0)⟩
    rw [List.append_nil]
    exact k1 E B G1 H1 _ o1 (.cons (r0.mono e1 hv0) ra) Q (q.up (e0.trans e1))) x
theorem ins_tab {m : List Nat} {f : Str} (hf : (f == "size" || (f == "masks" || f == "cells")) = false) : InsR C f (rTab K C m) := fun v G hv => by
  obtain ⟨a, dx, t, c, rfl, h2, _⟩ := hv
  refine ⟨a, dx, _, rfl, h2, ?_⟩
  have hf2 := hf
  simp only [Bool.or_eq_false_iff] at hf2
  obtain ⟨h1, h3, h4⟩ := hf2
  unfold tabF
  simp [List.lookup, h1, h3, h4]
theorem w_t {κ : Bool → List Re → Prop} (h : EW W Γ M te (fun r M' => ∃ c, r = rB c ∧ κ c M') ε) : ET W Γ M (tTest te) κ ε := fun B G H σ o en Q q x =>
  h B G H σ o en _ (fun v G' H' r M' z o' e' hv => by
    obtain ⟨c, rfl, k⟩ := z
    exact ⟨c, hv, q c G' H' M' k o' e'⟩) x
theorem w_tB {κ : Bool → List Re → Prop} (h : EW W Γ M te (fun r M' => ∃ c, r = rB c ∧ κ c M') ε) : ET W Γ M (tB te) κ ε := fun B G H σ o en Q q x =>
  h B G H σ o en _ (fun v G' H' r M' z o' e' hv => by
    obtain ⟨c, rfl, k⟩ := z
    exact ⟨c, hv, q c G' H' M' k o' e'⟩) x
theorem w_tx {κ : Bool → List Re → Prop} {c : Bool} (h : EvTX Γ t c) (k : κ c M) : ET W Γ M t κ ε := fun B G H σ o en Q q x => h σ G en H o.i Q fun H2 e => q c G H2 M k (o.ex e) (Ex.refl _)
theorem w_tOr {κ : Bool → List Re → Prop} (h : ET W Γ M t (fun c M' => (c = false → ET W Γ M' u κ ε) ∧ (c = true → κ true M')) ε) : ET W Γ M (tOr t u) κ ε := fun B G H σ o en Q q x =>
  h B G H σ o en _ (fun c G' H' M' z o' e' => by
    cases c with
    | false =>
      show u σ H' Q
      exact z.1 rfl B G' H' σ o' (en.mono e') Q (fun c2 G2 H2 M2 k o2 e2 => q c2 G2 H2 M2 k o2 (e'.trans e2)) (x.up e')
    | true =>
      show Q true H'
      exact q true G' H' M' (z.2 rfl) o' e') x
theorem w_tNot {κ : Bool → List Re → Prop} (h : ET W Γ M t (fun c M' => κ (!c) M') ε) : ET W Γ M (tNot t) κ ε := fun B G H σ o en Q q x =>
  h B G H σ o en _ (fun c G' H' M' z o' e' => q (!c) G' H' M' z o' e') x
end
section
variable {W : WX} {Γ : Ctx} {M : List Re} {te ta tb tc tl : TE} {t u : TT} {r r1 r2 r3 : Rp} {rs ss : List Rp} {K : PySem.W.Frag} {C : Addr} {i j : Nat} {κ : Kn} {tu tw : TS}
theorem ws_set (h : EW W Γ M te (fun r M' => κ.nx (Γ.set i (some r)) M') (κ.ex Γ)) : WP W Γ M (tAsg te (gName i)) κ := fun B G H σ D o en d =>
  h B G H σ o en _ (fun v G' H' r M' k o' e' hv => d.nx _ G' H' _ M' o' ((en.mono e').set hv i) k) (fun cls fs dd G' H' M' k o' e' xd => d.ex σ G' H' Γ M' cls dd fs o' (en.mono e') xd k)
theorem ws_ret (h : EW W Γ M te κ.rt (κ.ex Γ)) : WP W Γ M (tRet te) κ := fun B G H σ D o en d =>
  h B G H σ o en _ (fun v G' H' r M' k o' e' hv => d.rt v G' H' r M' o' hv k) (fun cls fs dd G' H' M' k o' e' xd => d.ex σ G' H' Γ M' cls dd fs o' (en.mono e') xd k)
theorem ws_do (h : EW W Γ M te (fun _ M' => κ.nx Γ M') (κ.ex Γ)) : WP W Γ M (tDrop te) κ := fun B G H σ D o en d =>
  h B G H σ o en _ (fun v G' H' r M' k o' e' hv => d.nx σ G' H' _ M' o' (en.mono e') k) (fun cls fs dd G' H' M' k o' e' xd => d.ex σ G' H' Γ M' cls dd fs o' (en.mono e') xd k)
theorem ws_if (h : ET W Γ M t (fun c M' => (c = true → WP W Γ M' tu κ) ∧ (c = false → WP W Γ M' tw κ)) (κ.ex Γ)) : WP W Γ M (tIfS t tu tw) κ := fun B G H σ D o en d =>
  h B G H σ o en _ (fun c G' H' M' k o' e' => by
    cases c with
    | true =>
      show tu D σ H'
      exact k.1 rfl B G' H' σ D o' (en.mono e') d
    | false =>
      show tw D σ H'
      exact k.2 rfl B G' H' σ D o' (en.mono e') d) (fun cls fs dd G' H' M' k o' e' xd => d.ex σ G' H' Γ M' cls dd fs o' (en.mono e') xd k)
end
section
variable {W : WX} {Γ : Ctx} {M : List Re} {te ta tb tc tl : TE} {r r1 r2 r3 : Rp} {rs ss : List Rp} {K : PySem.W.Frag} {C b p : Addr} {i j k : Nat} {v w x y : V} {m n : Nat} {a c : Int} {sp : Sp} {κ : KV} {ε : KX} {rr : R2}
theorem en2 {G : Hp} (h1 : r1.p x G) (h2 : r2.p y G) : En [some x, some y] G [some r1, some r2] := .cons (fun q hq => ⟨x, rfl, by cases hq; exact h1⟩) (.cons (fun q hq => ⟨y, rfl, by cases hq; exact h2⟩) .nil)
theorem en1 {G : Hp} (h1 : r1.p x G) : En [some x] G [some r1] := .cons (fun q hq => ⟨x, rfl, by cases hq; exact h1⟩) .nil
theorem om (h : EvX [some r1, some r2] (tOp rr (tVar 0) (tVar 1)) r) (k : κ r M) : OM rr r1 r2 M κ := fun B G H x y o hx hy Q q => by
  obtain ⟨v1, e1, v2, e2, z⟩ := h _ G (en2 hx hy) H o.i Q fun v G2 H2 g hv => q v G2 H2 r M k (o.gr g) g.g hv
  cases e1; cases e2
  exact z
theorem omn (h : EvNX [some r1, some r2] (tOp rr (tVar 0) (tVar 1)) rs) (k : κ (rL K rs) M) : OM rr r1 r2 M κ := om (EvNX.d (K := K) h) k
theorem um {rr : V → Hp → VK → Prop} (h : EvX [some r1] (tUn rr (tVar 0)) r) (k : κ r M) : UM rr r1 M κ := fun B G H x o hx Q q => by
  obtain ⟨v1, e1, z⟩ := h _ G (en1 hx) H o.i Q fun v G2 H2 g hv => q v G2 H2 r M k (o.gr g) g.g hv
  cases e1
  exact z
theorem am1 {rr : List V → Hp → VK → Prop} (h : EvX [some r1] (tCB rr (tCons (tVar 0) tNil)) r) (k : κ r M) : AM rr [r1] M κ := fun B G H vs o ra Q q => by
  obtain ⟨x, rfl, hx⟩ := ra1 ra
  obtain ⟨v1, e1, z⟩ := h _ G (en1 hx) H o.i Q fun v G2 H2 g hv => q v G2 H2 r M k (o.gr g) g.g hv
  cases e1
  exact z
theorem am1n {rr : List V → Hp → VK → Prop} (h : EvNX [some r1] (tCB rr (tCons (tVar 0) tNil)) rs) (k : κ (rL K rs) M) : AM rr [r1] M κ := am1 (EvNX.d (K := K) h) k
theorem am2c {rr : List V → Hp → VK → Prop} {c : V} (h : EvX [some r1] (tCB rr (tCons (tVar 0) (tCons (tC c) tNil))) r) (k : κ r M) : AM rr [r1, rV c] M κ := fun B G H vs o ra Q q => by
  obtain ⟨x, y, rfl, hx, hy⟩ := ra2 ra
  obtain rfl : y = c := hy
  obtain ⟨v1, e1, z⟩ := h _ G (en1 hx) H o.i Q fun v G2 H2 g hv => q v G2 H2 r M k (o.gr g) g.g hv
  cases e1
  exact z
theorem cm (h : ∀ vs G, RA G vs rs → SpD sp vs G r) (k : κ r M) : CM sp rs M κ := fun E B G H vs o ra Q q => h vs G ra H o.i Q (fun v G2 H2 g hv => q v G2 H2 r M k (o.gr g) g.g hv) E
theorem c_take (k : Nat) (hk : M[k]? = some (boxR K b)) (h0 : 0 < m) (h1 : m < 2 ^ 30) (kk : ∀ d, d < m → κ (nI d) M) : CM (spT K) [rV (.ref b), nI m] M κ := fun E B G H vs o ra Q q => by
  obtain ⟨x, y, rfl, hx, hy⟩ := ra2 ra
  obtain rfl : x = V.ref b := hx
  obtain rfl : y = V.int (m : Int) := hy
  have z : EXD [some (rV (.ref b))] M (tCall (spT K) [] E (tCons (tVar 0) (tCons (tC (.int (m : Int))) tNil))) (fun d : Nat => d < m) nI := d_take hk rfl (x_cn m) h0 h1
  obtain ⟨w, hw, z3⟩ := z B G H [some (.ref b)] o (en1 rfl) Q fun v G' H' r M' k1 k2 k3 k4 => by
    obtain ⟨⟨d, hd, rfl⟩, rfl⟩ := k1
    exact q v G' H' _ _ (kk d hd) k2 k3 k4
  cases hw
  exact z3
theorem c_BN {R : List V → Hp → (List Rp → Prop) → Prop} {PP : List Rp → Prop} (k : Nat) (hk : M[k]? = some (boxR K b)) (hs : ∀ ws G, RA G ws rs → R ws G PP) (kk : ∀ ss, PP ss → ∀ p, κ (rV (.ref p)) (M ++ [lstR p ss])) : CM (spBN K R) (rV (.ref b) :: rs) M κ := fun E B G H vs o ra Q q => by
  cases ra with
  | cons hx ra =>
    obtain rfl := hx
    have hm := List.mem_of_getElem? hk
    refine ⟨G, b, _, PP, rfl, o.i, o.z b (mem_feet hm (List.mem_singleton.mpr rfl)), o.m _ hm, hs _ G ra, fun ss p vs G2 H2 hP g hb2 hp gp h2 ra2 => q _ G2 H2 _ _ (kk ss hP p) (o.add2 (o.grB hk g hb2) (R := lstR p ss) (by show [_].Nodup; simp) (fun x hx => by rw [List.mem_singleton.mp hx]; exact ⟨hp, gp⟩) ⟨vs, h2, ra2⟩) g.g rfl⟩
theorem Go.frz {B : Ba} {G : Hp} {Q : VK} (q : Go B G κ Q) : Go B G (fun r M' => ∃ p ss M, r = rV (.ref p) ∧ M' = M ++ [lstR p ss] ∧ κ (rL K ss) M) Q := fun v G' H' r M' z o e hv => by
  obtain ⟨p, ss, M, rfl, rfl, k⟩ := z
  obtain rfl : v = V.ref p := hv
  have hk : (M ++ [lstR p ss])[M.length]? = some (lstR p ss) := by simp
  obtain ⟨G2, e2, o2, h2⟩ := o.frz (K := K) hk
  have es : (M ++ [lstR p ss]).eraseIdx M.length = M := by simp [List.eraseIdx_append_of_length_le]
  rw [es] at o2
  exact q _ G2 H' _ M k o2 (e.trans e2) h2
theorem c_BNf (K' : PySem.W.Frag) {R : List V → Hp → (List Rp → Prop) → Prop} {PP : List Rp → Prop} (k : Nat) (hk : M[k]? = some (boxR K b)) (hs : ∀ ws G, RA G ws rs → R ws G PP) (kk : ∀ ss, PP ss → κ (rL K' ss) M) : CM (spBN K R) (rV (.ref b) :: rs) M κ := fun E B G H vs o ra Q q =>
  c_BN (κ := fun r M' => ∃ p ss M, r = rV (.ref p) ∧ M' = M ++ [lstR p ss] ∧ κ (rL K' ss) M) k hk hs (fun ss h p => ⟨p, ss, M, rfl, rfl, kk ss h⟩) E B G H vs o ra Q q.frz
theorem Ok.rdv {B : Ba} {G H : Hp} (o : Ok B G H M) (hk : M[k]? = some (lstR p rs)) : ∃ G2, Ex G G2 ∧ Ex G2 H ∧ (rL K rs).p (.ref p) G2 := by
  have hm := List.mem_of_getElem? hk
  obtain ⟨ws, h1, h2⟩ := o.m _ hm
  have gp : G p = none := o.z p (mem_feet hm (List.mem_singleton.mpr rfl))
  have e : Ex G (upd G p (.lst ws)) := Ex.new gp
  exact ⟨upd G p (.lst ws), e, ex_add o.i h1, p, ws, rfl, upd_same, h2.mono e⟩
theorem om_ixOwn (k : Nat) (hk : M[k]? = some (lstR p rs)) (hi : rs[n]? = some r) (kk : κ r M) : OM (rIxL K) (rV (.ref p)) (nI n) M κ := fun B G H x y o hx hy Q q => by
  obtain rfl : x = V.ref p := hx
  obtain rfl : y = V.int (n : Int) := hy
  obtain ⟨ws, hp, ra⟩ := o.m _ (List.mem_of_getElem? hk)
  obtain ⟨w, h3, h4⟩ := ra.get hi
  exact ⟨p, ws, _, w, rfl, rfl, sq_of hp, atI_nat h3, q w G H r M kk o (Ex.refl _) h4⟩
theorem am_own {rr : List V → Hp → VK → Prop} (k : Nat) (hk : M[k]? = some (lstR p rs)) (h : EvX [some (rL K rs)] (tCB rr (tCons (tVar 0) tNil)) (rV v)) (kk : κ (rV v) M) : AM rr [rV (.ref p)] M κ := fun B G H vs o ra Q q => by
  obtain ⟨x, rfl, hx⟩ := ra1 ra
  obtain rfl : x = V.ref p := hx
  obtain ⟨G2, e, e2, hl⟩ := o.rdv (K := K) hk
  obtain ⟨v1, e1, z⟩ := h _ G2 (en1 hl) H e2 Q fun w G3 H3 g hw => q w G H3 (rV v) M kk (o.ex g.h) (Ex.refl _) hw
  cases e1
  exact z
theorem e_app (k : Nat) (hi : Γ[i]? = some (some (rV (.ref p)))) (h : EW W Γ M te (fun r M' => ∃ rs, M'[k]? = some (lstR p rs) ∧ rs.length < 50000 ∧ κ (rV .non) (M'.set k (lstR p (rs ++ [r])))) ε) (hk : M[k]? = some (lstR p rs)) : EW W Γ M (tBM K "list" rAppend (tVar i) (tCons te tNil)) κ ε := fun B G H σ o en Q q x => by
  obtain ⟨v, hv1, hv2⟩ := en.get hi
  obtain rfl : v = V.ref p := hv2
  obtain ⟨ws0, hp0, ra0⟩ := o.m _ (List.mem_of_getElem? hk)
  refine ⟨.ref p, hv1, Or.inl ⟨rfl, ws0, sq_of hp0⟩, h B G H σ o en _ (fun v G2 H2 r M' z o2 e hv => ?_) x⟩
  obtain ⟨rs, hk2, hz, hq⟩ := z
  obtain ⟨ws, hp, ra⟩ := o2.m _ (List.mem_of_getElem? hk2)
  have gp : G2 p = none := o2.z p (mem_feet (List.mem_of_getElem? hk2) (List.mem_singleton.mpr rfl))
  refine ⟨p, ws, v, rfl, rfl, hp, sz_lt (by rw [ra.len]; omega), q .non G2 _ (rV .non) _ hq (o2.chg (R' := lstR p (rs ++ [r])) hk2 rfl rfl (Ex.refl _) (fun a u z n => ?_) (Ex.mut o2.i gp) (fun _ _ _ _ y => y) ⟨ws ++ [v], upd_same, ra.snoc hv⟩) e rfl⟩
  rw [upd_ne fun q => n (List.mem_singleton.mpr q)]
  exact z
theorem f_tab {m : List Nat} {f : Str} (h : EvX [some (rTab K C m)] (tFld K (tVar 0) f) r) (k : κ r M) : UM (fun x H1 Q => ∃ a C dx fs v, x = .ref a ∧ H1 a = some (.ins C dx fs) ∧ Cls K C ∧ NoAttr K C f ∧ fs.lookup f = some v ∧ Q v H1) (rTab K C m) M κ := fun B G H x o hx Q q => by
  obtain ⟨v1, e1, z⟩ := h _ G (en1 hx) H o.i Q fun v G2 H2 g hv => q v G2 H2 r M k (o.gr g) g.g hv
  cases e1
  exact z
theorem mk_tab {m : List Nat} (w : Wf n m) (h1 : 1 ≤ n) (h6 : n ≤ 6) {E : XK} (k : κ (rTab K C m) M) : AM (fun vs H1 Q => ∀ x dx, H1 x = none → H1 dx = none → dx ≠ x → spTab K C (.ref x :: (vs ++ [])) (upd (upd H1 dx (.own x)) x (.ins C dx [])) (fun v H2 => v = .non ∧ Q (.ref x) H2) E) [rLL K (m.map bitsN)] M κ := fun B G H vs o ra Q q => by
  obtain ⟨x, rfl, hx⟩ := ra1 ra
  have z : EvX [some (rLL K (m.map bitsN))] (tMake C (spTab K C) [] E (tCons (tVar 0) tNil)) (rTab K C m) := x_tabRows (x_v rfl) w h1 h6
  obtain ⟨v1, e1, z2⟩ := z _ G (en1 hx) H o.i Q fun v G2 H2 g hv => q v G2 H2 _ M k (o.gr g) g.g hv
  cases e1
  exact z2
end
section
variable {Γ : Ctx} {M : List Re} {ta tb : TE} {r r1 r2 : Rp} {K : PySem.W.Frag} {C : Addr} {m n : Nat} {a b : Int} {κ : KV}
theorem x_eqI (ha : EvX Γ ta (rI a)) (hb : EvX Γ tb (rI b)) : EvX Γ (tOp rEq ta tb) (rB (decide (a = b))) := x_is (x_eqV ha hb) (by rw [dec_int])
theorem x_neI (ha : EvX Γ ta (rI a)) (hb : EvX Γ tb (rI b)) : EvX Γ (tOp rNe ta tb) (rB (!decide (a = b))) := x_is (x_neV ha hb) (by rw [dec_int])
theorem x_shlN1 (ha : EvX Γ ta (rV (.int 1))) (h : EvX Γ tb (nI n)) (hn : n ≤ 64) : EvX Γ (tOp (L2.rI CPow fun i j => .int (i * 2 ^ j.toNat)) ta tb) (nI (2 ^ n)) := x_is (x_I ha h ⟨by omega, by omega, by decide⟩) (by rw [shl_nat])
theorem x_ixLL {l : List (List Nat)} (ha : EvX Γ ta (rLL K l)) (hb : EvX Γ tb (nI n)) (h : n < l.length) : EvX Γ (tOp (rIxL K) ta tb) (rLn K (l.getD n [])) := x_ixLm [] ha hb h
theorem x_eqLn0 {l : List Nat} (ha : EvX Γ ta (rLn K l)) (hb : EvX Γ tb (rL K [])) : EvX Γ (tOp (rEqD K) ta tb) (rB (decide (l = []))) := x_eqLn (m := []) ha hb
theorem x_neLn0 {l : List Nat} (ha : EvX Γ ta (rLn K l)) (hb : EvX Γ tb (rL K [])) : EvX Γ (tOp (rNeD K) ta tb) (rB (!decide (l = []))) := x_neLn (m := []) ha hb
def NN (r : Rp) : Prop := ∀ v G, r.p v G → v ≠ V.non
theorem nn_tab {m : List Nat} : NN (rTab K C m) := fun v G h e => by
  obtain ⟨a, _, _, _, rfl, _⟩ := h
  cases e
theorem nn_L {rs : List Rp} : NN (rL K rs) := fun v G h e => by
  obtain ⟨a, _, rfl, _⟩ := h
  cases e
theorem nn_T {rs : List Rp} : NN (rT K rs) := fun v G h e => by
  obtain ⟨a, _, rfl, _⟩ := h
  cases e
theorem nn_I : NN (rI a) := fun v G h e => by
  obtain rfl : v = V.int a := h
  cases e
theorem om_isN0 (k : κ (rB true) M) : OM (fun x y H Q => y = V.non ∧ Q (.bl (decide (x = .non))) H) (rV .non) (rV .non) M κ := fun B G H x y o hx hy Q q => by
  obtain rfl : x = V.non := hx
  obtain rfl : y = V.non := hy
  exact ⟨rfl, q _ G H _ M k o (Ex.refl _) rfl⟩
theorem om_notN0 (k : κ (rB false) M) : OM (fun x y H Q => y = V.non ∧ Q (.bl (!decide (x = .non))) H) (rV .non) (rV .non) M κ := fun B G H x y o hx hy Q q => by
  obtain rfl : x = V.non := hx
  obtain rfl : y = V.non := hy
  exact ⟨rfl, q _ G H _ M k o (Ex.refl _) rfl⟩
theorem om_isN1 (hr : NN r) (k : κ (rB false) M) : OM (fun x y H Q => y = V.non ∧ Q (.bl (decide (x = .non))) H) r (rV .non) M κ := fun B G H x y o hx hy Q q => by
  obtain rfl : y = V.non := hy
  exact ⟨rfl, q _ G H _ M k o (Ex.refl _) (by rw [decide_eq_false (hr x G hx)]; rfl)⟩
theorem om_notN1 (hr : NN r) (k : κ (rB true) M) : OM (fun x y H Q => y = V.non ∧ Q (.bl (!decide (x = .non))) H) r (rV .non) M κ := fun B G H x y o hx hy Q q => by
  obtain rfl : y = V.non := hy
  exact ⟨rfl, q _ G H _ M k o (Ex.refl _) (by rw [decide_eq_false (hr x G hx)]; rfl)⟩
end
section
variable {α : Type} {W : WX} {Γ : Ctx} {M : List Re} {te ta tl : TE} {t : TT} {K : PySem.W.Frag} {j n : Nat} {κ : KV} {ε : KX} {vs : List Nat} {l : List α} {ρ rr : α → Rp} {f : α → Bool}
theorem e_lcL0 (h : EvX Γ tl (rL K (l.map ρ))) (hz : l.length ≤ 40000) (he : ∀ a, a ∈ l → EvX ((wipeC Γ vs).set j (some (ρ a))) te (rr a)) (hj : j ∈ vs) (k : κ (rL K (l.map rr)) M) : EW W Γ M (tLc (iList K tl) (gName j) tYes te vs) κ ε := e_xn K (xn_lcL0 l ρ rr h hz he hj) k
theorem e_lcL (h : EvX Γ tl (rL K (l.map ρ))) (hz : l.length ≤ 40000) (ht : ∀ a, a ∈ l → EvTX ((wipeC Γ vs).set j (some (ρ a))) t (f a)) (he : ∀ a, a ∈ l → f a = true → EvX ((wipeC Γ vs).set j (some (ρ a))) te (rr a)) (hj : j ∈ vs) (k : κ (rL K ((l.filter f).map rr)) M) : EW W Γ M (tLc (iList K tl) (gName j) t te vs) κ ε := e_xn K (xn_lcL l ρ f rr h hz ht he hj) k
theorem e_lcT0 (h : EvX Γ tl (rT K (l.map ρ))) (hz : l.length ≤ 40000) (he : ∀ a, a ∈ l → EvX ((wipeC Γ vs).set j (some (ρ a))) te (rr a)) (hj : j ∈ vs) (k : κ (rL K (l.map rr)) M) : EW W Γ M (tLc (iTup K tl) (gName j) tYes te vs) κ ε := e_xn K (xn_lcT0 l ρ rr h hz he hj) k
theorem e_lcT (h : EvX Γ tl (rT K (l.map ρ))) (hz : l.length ≤ 40000) (ht : ∀ a, a ∈ l → EvTX ((wipeC Γ vs).set j (some (ρ a))) t (f a)) (he : ∀ a, a ∈ l → f a = true → EvX ((wipeC Γ vs).set j (some (ρ a))) te (rr a)) (hj : j ∈ vs) (k : κ (rL K ((l.filter f).map rr)) M) : EW W Γ M (tLc (iTup K tl) (gName j) t te vs) κ ε := e_xn K (xn_lcT l ρ f rr h hz ht he hj) k
theorem e_lcR0 {rr : Nat → Rp} (K : PySem.W.Frag) (h : EvX Γ ta (nI n)) (hz : n ≤ 40000) (he : ∀ a, a < n → EvX ((wipeC Γ vs).set j (some (nI a))) te (rr a)) (hj : j ∈ vs) (k : κ (rL K ((List.range n).map rr)) M) : EW W Γ M (tLc (iRng1 (tCons ta tNil)) (gName j) tYes te vs) κ ε := e_xn K (xn_lcR0 n rr h hz he hj) k
theorem e_lcR {rr : Nat → Rp} {f : Nat → Bool} (K : PySem.W.Frag) (h : EvX Γ ta (nI n)) (hz : n ≤ 40000) (ht : ∀ a, a < n → EvTX ((wipeC Γ vs).set j (some (nI a))) t (f a)) (he : ∀ a, a < n → f a = true → EvX ((wipeC Γ vs).set j (some (nI a))) te (rr a)) (hj : j ∈ vs) (k : κ (rL K (((List.range n).filter f).map rr)) M) : EW W Γ M (tLc (iRng1 (tCons ta tNil)) (gName j) t te vs) κ ε := e_xn K (xn_lcR n f rr h hz ht he hj) k
end
section
variable {W : WX} {Γ : Ctx} {M : List Re} {ta tb : TE} {t : TT} {κ : KV} {ε : KX} {c d : Bool}
theorem e_and (h1 : EvX Γ ta (rB c)) (h2 : c = true → EvX Γ tb (rB d)) (k : κ (rB (c && d)) M) : EW W Γ M (tAndV ta tb) κ ε := e_x (x_and h1 h2) k
theorem e_or (h1 : EvX Γ ta (rB c)) (h2 : c = false → EvX Γ tb (rB d)) (k : κ (rB (c || d)) M) : EW W Γ M (tOrV ta tb) κ ε := e_x (x_or h1 h2) k
theorem e_not (h1 : EvX Γ ta (rB c)) (k : κ (rB (!c)) M) : EW W Γ M (tNotV ta) κ ε := e_x (x_not h1) k
end
theorem t_and0 {Γ : Ctx} {t u : TT} {c : Bool} (h1 : EvTX Γ t c) (hc : c = false) : EvTX Γ (tAnd t u) false := fun σ G en H e Q q => h1 σ G en H e _ fun H1 e1 => by
  subst hc
  show Q false H1
  exact q H1 e1
theorem t_or1 {Γ : Ctx} {t u : TT} {c : Bool} (h1 : EvTX Γ t c) (hc : c = true) : EvTX Γ (tOr t u) true := fun σ G en H e Q q => h1 σ G en H e _ fun H1 e1 => by
  subst hc
  show Q true H1
  exact q H1 e1
theorem x_and0 {Γ : Ctx} {ta tb : TE} {c : Bool} (h1 : EvX Γ ta (rB c)) (hc : c = false) : EvX Γ (tAndV ta tb) (rB false) := fun σ G en H e Q q => h1 σ G en H e _ fun v G1 H1 g hv => by
  subst hc
  obtain rfl : v = V.bl false := hv
  exact ⟨false, rfl, q _ G1 H1 g rfl⟩
theorem x_or1 {Γ : Ctx} {ta tb : TE} {c : Bool} (h1 : EvX Γ ta (rB c)) (hc : c = true) : EvX Γ (tOrV ta tb) (rB true) := fun σ G en H e Q q => h1 σ G en H e _ fun v G1 H1 g hv => by
  subst hc
  obtain rfl : v = V.bl true := hv
  exact ⟨true, rfl, q _ G1 H1 g rfl⟩
theorem e_cn {W : WX} {Γ : Ctx} {M : List Re} {κ : KV} {ε : KX} {n : Nat} (k : κ (nI (OfNat.ofNat n)) M) : EW W Γ M (tC (.int (@OfNat.ofNat Int n _))) κ ε := e_c k
theorem am_listL {M : List Re} {κ : KV} {K : PySem.W.Frag} {rs : List Rp} (k : κ (rL K rs) M) : AM (rListS K) [rL K rs] M κ := am1n (K := K) (xn_list (x_v rfl)) k
theorem am_listT {M : List Re} {κ : KV} {K : PySem.W.Frag} {rs : List Rp} (k : κ (rL K rs) M) : AM (rListS K) [rT K rs] M κ := am1n (K := K) (xn_listT (x_v rfl)) k
end Mu

namespace Mu
open PySem PySem.Spec PyProof.Rows L2 Evl
section
variable {X : Cx} {CX : CXT} {k : Nat} {f C : Addr} {fd : FuncData} {ps : List Str} {sp : Sp} {x : Str} {p pos apos : Pos} {e o : Expr} {es : List Expr} {t : TA} {te : TE}
def tMakeS (C : Addr) (sp : Sp) (E : L2.St → XK) (t : TA) : TE := fun σ H Q => t σ H fun vs H1 => ∀ x dx, H1 x = none → H1 dx = none → dx ≠ x → sp (.ref x :: vs) (upd (upd H1 dx (.own x)) x (.ins C dx [])) (fun v H2 => v = .non ∧ Q (.ref x) H2) (E σ)
end
section
variable {CX CX2 : CXT} {P : Program} {w : World} {K : PySem.W.Frag} {mg : Str → Option Value} {base : Heap} {N ps ps2 : List Str} {x qual : Str} {params : Arguments} {body : List Stmt} {scope : Scope} {file : Str} {D f f2 : Addr} {fd fd2 : FuncData} {cda cc : Addr} {A : Around} {outer : List Env} {s0 : Shared} {H0 : Hp} {E0 : XK}
  {pins : List (Addr × Obj)} {σ : L2.St} {H : Hp} {s : Shared} {fb : List Stmt} {k2 : Nat} {sp2 : Sp} {m : Str}
def tSup (K : PySem.W.Frag) (D : Addr) (m : Str) (f2 : Addr) (sp : Sp) (E : L2.St → XK) (ta : TA) : TE := fun σ H Q => ∃ a C dx fs, σ[0]? = some (some (.ref a)) ∧ H a = some (.ins C dx fs) ∧ PySem.W.mroIn K C (.ref D) = some true ∧ PySem.W.ks_superIn K C D m = some (some (.ref f2)) ∧ ta σ H fun vs H1 => sp (.ref a :: vs) H1 Q (E σ)
end
end Mu

namespace Mu
open PySem PySem.Spec PyProof.Rows L2 Evl
abbrev FL := List (Str × Rp)
abbrev FsR (G : Hp) : List (Str × V) → FL → Prop := Paired fun a b => a.1 = b.1 ∧ b.2.p a.2 G
theorem FsR.mono {G G' : Hp} (e : Ex G G') : ∀ {fs : List (Str × V)} {rs : FL}, FsR G fs rs → FsR G' fs rs
  | _, _, .nil => .nil
  | _, _, .cons (b := b) h t => .cons ⟨h.1, b.2.mono e h.2⟩ (FsR.mono e t)
theorem FsR.len {G : Hp} {fs : List (Str × V)} {rs : FL} (h : FsR G fs rs) : fs.length = rs.length := Paired.length h
theorem FsR.get {G : Hp} {f : Str} {r : Rp} : ∀ {fs : List (Str × V)} {rs : FL}, FsR G fs rs → rs.lookup f = some r → ∃ v, fs.lookup f = some v ∧ r.p v G
  | _, _, .nil, h => by cases h
  | (g, v) :: fs, (g', r') :: rs, .cons h t, e => by
    obtain ⟨h1, h2⟩ := h
    have h1' : g = g' := h1
    subst h1'
    rw [List.lookup_cons] at e ⊢
    cases q : f == g with
    | true =>
      rw [q] at e
      obtain rfl : r' = r := Option.some.inj e
      exact ⟨v, rfl, h2⟩
    | false =>
      rw [q] at e
      exact FsR.get t e
theorem FsR.noget {G : Hp} {f : Str} : ∀ {fs : List (Str × V)} {rs : FL}, FsR G fs rs → rs.lookup f = none → fs.lookup f = none
  | _, _, .nil, h => rfl
  | (g, v) :: fs, (g', r') :: rs, .cons h t, e => by
    obtain ⟨h1, h2⟩ := h
    have h1' : g = g' := h1
    subst h1'
    rw [List.lookup_cons] at e ⊢
    cases q : f == g with
    | true => rw [q] at e; cases e
    | false => rw [q] at e; exact FsR.noget t e
theorem FsR.put {G : Hp} {f : Str} {r : Rp} {v : V} (hr : r.p v G) : ∀ {fs : List (Str × V)} {rs : FL}, FsR G fs rs → rs.lookup f = none → FsR G (putF f v fs) (rs ++ [(f, r)])
  | _, _, .nil, _ => .cons ⟨rfl, hr⟩ .nil
  | (g, x) :: fs, (g', r') :: rs, .cons h t, e => by
    obtain ⟨h1, h2⟩ := h
    have h1' : g = g' := h1
    subst h1'
    rw [List.lookup_cons] at e
    cases q : f == g with
    | true => rw [q] at e; cases e
    | false =>
      rw [q] at e
      have ne : ¬ g = f := fun z => by subst z; simp at q
      show FsR G (if g = f then (g, v) :: fs else (g, x) :: putF f v fs) ((g, r') :: (rs ++ [(f, r)]))
      rw [if_neg ne]
      exact .cons ⟨rfl, h2⟩ (FsR.put hr t e)
def setR (f : Str) (r : Rp) : FL → FL
  | [] => []
  | (g, x) :: rs => if g = f then (g, r) :: rs else (g, x) :: setR f r rs
theorem FsR.set {G : Hp} {f : Str} {r r0 : Rp} {v : V} (hr : r.p v G) : ∀ {fs : List (Str × V)} {rs : FL}, FsR G fs rs → rs.lookup f = some r0 → FsR G (putF f v fs) (setR f r rs)
  | _, _, .nil, h => by cases h
  | (g, x) :: fs, (g', r') :: rs, .cons h t, e => by
    obtain ⟨h1, h2⟩ := h
    have h1' : g = g' := h1
    subst h1'
    rw [List.lookup_cons] at e
    show FsR G (if g = f then (g, v) :: fs else (g, x) :: putF f v fs) (if g = f then (g, r) :: rs else (g, r') :: setR f r rs)
    by_cases c : g = f
    · rw [if_pos c, if_pos c]
      exact .cons ⟨rfl, hr⟩ t
    · have q : (f == g) = false := by simpa using fun z : f = g => c z.symm
      rw [q] at e
      rw [if_neg c, if_neg c]
      exact .cons ⟨rfl, h2⟩ (FsR.set hr t e)
def rIns (C : Addr) (fs : FL) : Rp := ⟨fun v G => ∃ a dx ws, v = .ref a ∧ G a = some (.ins C dx ws) ∧ FsR G ws fs, fun e ⟨a, dx, ws, h1, h2, h3⟩ => ⟨a, dx, ws, h1, e _ _ h2, h3.mono e⟩⟩
def insR (own : Bool) (p C : Addr) (fs : FL) : Re where
  own := own
  ft := [p]
  p := fun G H => ∃ dx ws, H p = some (.ins C dx ws) ∧ FsR G ws fs
  mono := fun e ⟨dx, ws, h1, h2⟩ => ⟨dx, ws, h1, h2.mono e⟩
  loc := fun k ⟨dx, ws, h1, h2⟩ => ⟨dx, ws, k p (List.mem_singleton.mpr rfl) _ h1, h2⟩
  at_ := fun ⟨dx, ws, h1, _⟩ a ha => by rw [List.mem_singleton.mp ha]; exact ⟨_, h1, fun _ z => nomatch z⟩
section
variable {W : WX} {Γ : Ctx} {M : List Re} {te ta tb tc tl : TE} {r r1 r2 r3 : Rp} {rs ss : List Rp} {K : PySem.W.Frag} {C D b p : Addr} {i j k : Nat} {v w x y : V} {m n : Nat} {sp : Sp} {κ : KV} {ε : KX} {own : Bool} {fs : FL} {f : Str} {B : Ba} {G H G2 H2 : Hp}
theorem ins_ins (hf : fs.lookup f = none) : InsR C f (rIns C fs) := fun v G hv => by
  obtain ⟨a, dx, ws, rfl, h2, h3⟩ := hv
  exact ⟨a, dx, ws, rfl, h2, h3.noget hf⟩
theorem f_ins (hc : Cls K C) (hn : NoAttr K C f) (hl : fs.lookup f = some r) (kk : κ r M) : UM (fun x H1 Q => ∃ a C dx fs v, x = .ref a ∧ H1 a = some (.ins C dx fs) ∧ Cls K C ∧ NoAttr K C f ∧ fs.lookup f = some v ∧ Q v H1) (rIns C fs) M κ := fun B G H x o hx Q q => by
  obtain ⟨a, dx, ws, rfl, h2, h3⟩ := hx
  obtain ⟨v, hv, hr⟩ := h3.get hl
  exact ⟨a, C, dx, ws, v, rfl, o.i _ _ h2, hc, hn, hv, q v G H r M kk o (Ex.refl _) hr⟩
theorem f_own (k : Nat) (hk : M[k]? = some (insR own p C fs)) (hc : Cls K C) (hn : NoAttr K C f) (hl : fs.lookup f = some r) (kk : κ r M) : UM (fun x H1 Q => ∃ a C dx fs v, x = .ref a ∧ H1 a = some (.ins C dx fs) ∧ Cls K C ∧ NoAttr K C f ∧ fs.lookup f = some v ∧ Q v H1) (rV (.ref p)) M κ := fun B G H x o hx Q q => by
  obtain rfl : x = V.ref p := hx
  obtain ⟨dx, ws, h2, h3⟩ := o.m _ (List.mem_of_getElem? hk)
  obtain ⟨v, hv, hr⟩ := h3.get hl
  exact ⟨p, C, dx, ws, v, rfl, h2, hc, hn, hv, q v G H r M kk o (Ex.refl _) hr⟩
theorem ws_fld {κ : Kn} {fs0 : FL} (k : Nat) (hi : Γ[i]? = some (some (rV (.ref p)))) (hk0 : M[k]? = some (insR own p C fs0)) (hc : Cls K C) (hn : NoAttr K C f) (h : EW W Γ M te (fun r M' => ∃ fs, M'[k]? = some (insR own p C fs) ∧ fs.lookup f = none ∧ fs.length < 900 ∧ κ.nx Γ (M'.set k (insR own p C (fs ++ [(f, r)])))) (κ.ex Γ)) : WP W Γ M (sFld K (tVar i) te f) κ := fun B G H σ D o en d =>
  h B G H σ o en _ (fun v G' H' r M' z o' e' hv => by
    obtain ⟨fs, hk, hl, hz, hq⟩ := z
    obtain ⟨u, hu1, hu2⟩ := en.get hi
    obtain rfl : u = V.ref p := hu2
    have hm := List.mem_of_getElem? hk
    obtain ⟨dx, ws, h2, h3⟩ := o'.m _ hm
    have gp : G' p = none := o'.z p (mem_feet hm (List.mem_singleton.mpr rfl))
    refine ⟨.ref p, hu1, p, C, dx, ws, rfl, h2, hc, hn, by rw [h3.len]; omega, d.nx σ G' _ Γ _ (o'.chg (R' := insR own p C (fs ++ [(f, r)])) hk rfl rfl (Ex.refl _) (fun a u z n => ?_) (Ex.mut o'.i gp) (fun _ _ _ _ y => y) ⟨dx, _, upd_same, h3.put hv hl⟩) (en.mono e') hq⟩
    rw [upd_ne fun q => n (List.mem_singleton.mpr q)]
    exact z) (fun cls fs dd G' H' M' k o' e' xd => d.ex σ G' H' Γ M' cls dd fs o' (en.mono e') xd k)
abbrev IOut := FL ⊕ (Value × List (Str × V))
def spIni (OKC : Addr → Prop) (R : List V → Hp → IOut → Prop) : Sp := fun vs H Q E => ∃ p C dx ws G o, vs = .ref p :: ws ∧ OKC C ∧ H p = some (.ins C dx []) ∧ Ex G H ∧ G p = none ∧ R ws G o ∧
  (∀ fs, o = .inl fs → ∀ G2 H2, GrB p G H G2 H2 → (insR false p C fs).p G2 H2 → Q .non H2) ∧ (∀ cls xs, o = .inr (cls, xs) → ∀ d G2 H2, GrB p G H G2 H2 → (∃ u, H2 p = some u ∧ Mt u) → XdOk G2 xs d → E cls d H2)
theorem Ok.ins {dx : Addr} (e : Ex G H) (gp : G p = none) (hp : H p = some (.ins C dx [])) : Ok ⟨G, H, [p], G⟩ G H [insR false p C []] :=
  ⟨Ex.refl _, Ex.refl _, fun _ _ z _ => z, e, fun _ _ _ _ y => y, fun a h => by rw [List.mem_singleton.mp h]; exact ⟨_, hp, mt_ins⟩, fun r h => by rw [List.mem_singleton.mp h]; exact ⟨dx, [], hp, .nil⟩, fun a h => by
    have : a ∈ [p] := by simpa [feet, insR] using h
    rw [List.mem_singleton.mp this]; exact gp, by simp [feet, insR], fun r h a ha => by
    rw [List.mem_singleton.mp h] at ha ⊢
    exact .inr ⟨rfl, ha⟩⟩
def MkM (C : Addr) (sp : Sp) (rs : List Rp) (M : List Re) (κ : KV) (ε : KX) : Prop := ∀ B G H vs W σ, Ok B G H M → RA G vs rs → ∀ Q : VK, Go B G κ Q → GoX B G ε W σ → ∀ x dx, H x = none → H dx = none → dx ≠ x → sp (.ref x :: vs) (upd (upd H dx (.own x)) x (.ins C dx [])) (fun v H2 => v = .non ∧ Q (.ref x) H2) (fun cls d H' => W cls d σ H')
theorem e_makeS {ta : TA} (h : EA W Γ M ta (fun rs M1 => MkM C sp rs M1 κ ε) ε) : EW W Γ M (tMakeS C sp (WE W) ta) κ ε := fun B G H σ o en Q q x =>
  h B G H σ o en _ (fun vs G1 H1 rs M1 h1 o1 e1 ra => h1 B G1 H1 vs W σ o1 ra Q (q.up e1) (x.up e1)) x
theorem e_makeI {ta : TA} {E : XK} (h : EA W Γ M ta (fun rs M1 => MkM C sp rs M1 κ (fun _ _ _ => False)) ε) (hE : ∀ vs H Q E', sp vs H Q E' → ∀ E2 : XK, (∀ c d H', E' c d H' → E2 c d H') → sp vs H Q E2) : EW W Γ M (tMake C sp [] E ta) κ ε := fun B G H σ o en Q q x =>
  h B G H σ o en _ (fun vs G1 H1 rs M1 h1 o1 e1 ra => fun y dy hy hdy ne => by
    rw [List.append_nil]
    exact hE _ _ _ _ (h1 B G1 H1 vs (fun _ _ _ _ => False) σ o1 ra Q (q.up e1) (fun _ _ _ _ _ _ z => z.elim) y dy hy hdy ne) E (fun _ _ _ z => z.elim)) x
theorem spIni_E {OKC : Addr → Prop} {R : List V → Hp → IOut → Prop} : ∀ vs H Q E', spIni OKC R vs H Q E' → ∀ E2 : XK, (∀ c d H', E' c d H' → E2 c d H') → spIni OKC R vs H Q E2 := fun vs H Q E' h E2 hi => by
  obtain ⟨p, C, dx, ws, G, o, h1, h2, h3, h4, h5, h6, h7, h8⟩ := h
  exact ⟨p, C, dx, ws, G, o, h1, h2, h3, h4, h5, h6, h7, fun cls xs e d G2 H2 g hu x => hi _ _ _ (h8 cls xs e d G2 H2 g hu x)⟩
end

structure SupF (K : PySem.W.Frag) (C D : Addr) (m : Str) (f : Addr) : Prop where
  mro : PySem.W.mroIn K C (.ref D) = some true
  sup : PySem.W.ks_superIn K C D m = some (some (.ref f))
theorem FunD.lk {K : PySem.W.Frag} {x qual : Str} {params : Arguments} {body : List Stmt} {scope : Scope} {dvs : List V} {kws : List (Str × V)} {f : Addr} {fd : FuncData} (F : FunD K x qual params body scope dvs kws f fd) : ∃ oc od osl, K.lookup f = some ⟨oc, od, .func fd, osl⟩ := by
  obtain ⟨oc, od, dV, kV, doc, pm, an, cdv, ct, osl, rfl, lk, hcd, _, _⟩ := F.ex
  exact ⟨oc, od, osl, lk⟩
theorem FunS.lk {K : PySem.W.Frag} {x qual : Str} {params : Arguments} {body : List Stmt} {scope : Scope} {file : Str} {D f : Addr} {fd : FuncData} {cda cc : Addr} (F : FunS K x qual params body scope file D f fd cda cc) : ∃ oc od osl, K.lookup f = some ⟨oc, od, .func fd, osl⟩ := by
  obtain ⟨oc, od, kV, doc, pm, an, ct, osl, e, lk⟩ := F.fn
  exact ⟨oc, od, osl, lk⟩
section
variable {Γ : Ctx} {M : List Re} {te ta tb : TE} {K : PySem.W.Frag} {κ : KV} {n : Nat}
end
theorem EvAX.by {Γ : Ctx} {ta : TA} {rs : List Rp} (h : ∀ W ε, EA W Γ [] ta (fun r' M' => r' = rs ∧ M' = []) ε) : EvAX Γ ta rs := fun σ G en H e Q q => h (fun _ _ _ _ => True) (fun _ _ _ => False) ⟨G, H, [], G⟩ G H σ (Ok.nil e) en Q (fun v G' H' r' M' z o _ hv => by
    obtain ⟨rfl, rfl⟩ := z
    exact q v G' H' o.to hv) (fun _ _ _ _ _ _ z => z.elim)
section
variable {Γ : Ctx} {ta tb : TE} {m n : Nat}
theorem dec_iff {p q : Prop} [Decidable p] [Decidable q] (h : p ↔ q) : decide p = decide q := by
  rw [Bool.eq_iff_iff, decide_eq_true_iff, decide_eq_true_iff]; exact h
theorem x_ltN (ha : EvX Γ ta (nI m)) (hb : EvX Γ tb (nI n)) : EvX Γ (tOp (rI0 fun i j => .bl (decide (i < j))) ta tb) (rB (decide (m < n))) := x_is (x_I0 ha hb) (congrArg rB (dec_iff (by omega)))
theorem x_leN (ha : EvX Γ ta (nI m)) (hb : EvX Γ tb (nI n)) : EvX Γ (tOp (rI0 fun i j => .bl (decide (i ≤ j))) ta tb) (rB (decide (m ≤ n))) := x_is (x_I0 ha hb) (congrArg rB (dec_iff (by omega)))
theorem x_gtN (ha : EvX Γ ta (nI m)) (hb : EvX Γ tb (nI n)) : EvX Γ (tOp (rI0 fun i j => .bl (decide (j < i))) ta tb) (rB (decide (n < m))) := x_is (x_I0 ha hb) (congrArg rB (dec_iff (by omega)))
theorem x_geN (ha : EvX Γ ta (nI m)) (hb : EvX Γ tb (nI n)) : EvX Γ (tOp (rI0 fun i j => .bl (decide (j ≤ i))) ta tb) (rB (decide (n ≤ m))) := x_is (x_I0 ha hb) (congrArg rB (dec_iff (by omega)))
end
end Mu

namespace Mu
open PySem PySem.Spec PyProof.Rows L2 Evl
section
variable {α : Type} {W : WX} {Γ : Ctx} {M : List Re} {te ta tb tl : TE} {K : PySem.W.Frag} {i j k n : Nat} {p : Addr} {κ : KV} {ε : KX} {vs : List Nat} {D : α → Prop} {f : α → Rp} {rs : List Rp} {r : Rp}
theorem EX.ofW (h : ∀ W, EW W Γ M te κ (fun _ _ _ => False)) : EX Γ M te κ := fun B G H σ o en Q q => h (fun _ _ _ _ => False) B G H σ o en Q q (fun _ _ _ _ _ _ z => z.elim)
theorem EW.imp {κ' : KV} (h : EW W Γ M te κ' ε) (hi : ∀ r M', κ' r M' → κ r M') : EW W Γ M te κ ε := fun B G H σ o en Q q x => h B G H σ o en Q (fun v G' H' r M' z => q v G' H' r M' (hi r M' z)) x
end
theorem x_powN {Γ : Ctx} {ta tb : TE} {a b : Nat} (ha : EvX Γ ta (nI a)) (hb : EvX Γ tb (nI b)) (h1 : b ≤ 1000000) (h2 : a < 2 ^ 64) : EvX Γ (tOp (L2.rI CPow fun i j => .int (i ^ j.toNat)) ta tb) (nI (a ^ b)) := x_is (x_I ha hb ⟨by omega, by omega, by rw [Int.natAbs_natCast]; exact h2⟩) (by show rI _ = rI _; congr 1; first | done | (rw [Int.toNat_natCast]; exact (Int.natCast_pow a b).symm))
section
variable {W : WX} {Γ : Ctx} {M : List Re} {te ta tb : TE} {K : PySem.W.Frag} {κ : KV} {ε : KX} {rs ss : List Rp} {i : Int} {m n : Nat}
theorem om_cat (hz : rs.length + ss.length ≤ 100000) (k : κ (rL K (rs ++ ss)) M) : OM rCat (rL K rs) (rL K ss) M κ := omn (K := K) (xn_cat (K := K) (x_v rfl) (x_v rfl) hz) k
theorem RA.rep {G : Hp} {vs : List V} {rs : List Rp} (h : RA G vs rs) : ∀ m, RA G (List.replicate m vs).flatten (List.replicate m rs).flatten
  | 0 => .nil
  | m + 1 => by
    rw [List.replicate_succ, List.replicate_succ, List.flatten_cons, List.flatten_cons]
    exact h.append (RA.rep h m)
theorem om_rep (hz : rs.length * m ≤ 100000) (hm : m ≤ 100000) (k : κ (rL K (List.replicate m rs).flatten) M) : OM rRep (rL K rs) (nI m) M κ := fun B G H x y o hx hy Q q => by
  obtain ⟨a, vs, rfl, h1, h2⟩ := hx
  obtain rfl : y = V.int (m : Int) := hy
  refine ⟨a, (m : Int), vs, rfl, rfl, o.i _ _ h1, by omega, by omega, sz_of (by rw [Int.toNat_natCast, h2.len]; exact hz), fun p hp => ?_⟩
  rw [Int.toNat_natCast]
  have g := Gr.new (o := .lst (List.replicate m vs).flatten) o.i hp
  exact q (.ref p) _ _ _ M k (o.gr g) g.g ⟨p, _, rfl, upd_same, (RA.rep h2 m).mono g.g⟩
theorem ev_part {Γ : Ctx} {te : TE} (h : EvX Γ te (rI i)) {σ : L2.St} {G : Hp} (en : En σ G Γ) : EvO (tPart te) σ G (some i) := fun H e Q q => h σ G en H e _ fun v G2 H2 g hv => by
  obtain rfl : v = V.int i := hv
  exact ⟨_, rfl, q H2 g.h⟩
theorem e_sl {tl th : TO} {lo hi : Option Int} (hl : ∀ σ G, En σ G Γ → EvO tl σ G lo) (hh : ∀ σ G, En σ G Γ → EvO th σ G hi) (h : EW W Γ M te (fun r M1 => ∃ rs, r = rL K rs ∧ κ (rL K (cutR rs lo hi)) M1) ε) : EW W Γ M (tSl (rSlL K) te tl th) κ ε := fun B G H σ o en Q q x =>
  h B G H σ o en _ (fun v G1 H1 r M1 z o1 e1 hv => by
    obtain ⟨rs, rfl, kk⟩ := z
    have z2 := en_slL (σ := σ) (G := G1) (te := tC v) (tl := tl) (th := th) (K := K) (rs := rs) (lo := lo) (hi := hi) (fun H e Q q => q v G1 H (Gr.refl e) (by
      obtain ⟨a, vs, rfl, h1, h2⟩ := hv
      exact ⟨a, vs, rfl, sq_of h1, h2⟩)) (fun G' e => hl σ G' (en.mono (e1.trans e))) (fun G' e => hh σ G' (en.mono (e1.trans e)))
    exact (EvN.d (K := K) z2) H1 o1.i Q fun w G2 H2 g hw => q w G2 H2 _ M1 kk (o1.gr g) (e1.trans g.g) hw) x
theorem e_slTo (hb : EvX Γ tb (rI i)) (h : EW W Γ M te (fun r M1 => ∃ rs, r = rL K rs ∧ κ (rL K (cutR rs none (some i))) M1) ε) : EW W Γ M (tSl (rSlL K) te tNoPart (tPart tb)) κ ε := e_sl (fun _ _ _ => o_no) (fun _ _ en => ev_part hb en) h
theorem e_slFrom (hb : EvX Γ tb (rI i)) (h : EW W Γ M te (fun r M1 => ∃ rs, r = rL K rs ∧ κ (rL K (cutR rs (some i) none)) M1) ε) : EW W Γ M (tSl (rSlL K) te (tPart tb) tNoPart) κ ε := e_sl (fun _ _ en => ev_part hb en) (fun _ _ _ => o_no) h
end
end Mu

namespace Mu
open PySem PySem.Spec PyProof.Rows L2 He Evl
theorem DefA.funD {K : PySem.W.Frag} {d : DefA} (e : fnA K (d.at_ K) = d.val) (c : d.ok K = true) : ∃ fd, FunD K d.name d.qual d.params d.body d.scope [] [] (d.at_ K) fd := by
  obtain ⟨kp, c2⟩ := ba c
  unfold fnA at e
  cases q : K.lookup (d.at_ K) with
  | none =>
    rw [q] at c2
    cases c2
  | some o =>
    obtain ⟨oc, od, dt, osl⟩ := o
    rw [q] at c2 e
    cases dt with
    | func fd =>
      obtain ⟨n1, n2, n3, n4, n5, n6, n7, n8, n9, n10, n11, n12, n13, n14, n15⟩ := fd
      have e2 : (some (n1, n2, n3, n4, n5, n6, n7, n15) : FnW) = some (d.name, d.qual, d.params, .stmts d.body, d.scope, mainGlobals, [], builtinsNs) := e
      simp only [Option.some.injEq, Prod.mk.injEq] at e2
      obtain ⟨h1, h2, h3, h4, h5, h6, h7, h8⟩ := e2
      subst h1 h2 h3 h4 h5 h6 h7 h8
      have c3 : (PySem.W.codeIn K n13 d.qual && (dflB K n8 [] && kwdB K n9 [])) = true := c2
      obtain ⟨k1, k2⟩ := ba c3
      obtain ⟨k3, k4⟩ := ba k2
      exact ⟨_, ⟨oc, od, n8, n9, n10, n11, n12, n13, n14, osl, rfl, q, k1, dflB_ok k3, kwdB_ok k4⟩, kp⟩
    | _ => cases c2
section
variable {fa : List Fa} {ex : List FactB} {fn : List DefD} {sn : List DefS} {an : List DefA} {K : PySem.W.Frag}
theorem SaysP.s (c : SaysP fa ex fn sn an K) : SaysS fa ex fn sn K := by
  have h1 : (((((fa.all fun f => f.ok K) && ex.all fun f => f K) && fn.all fun d => d.ok K) && sn.all fun d => d.ok K) && an.all fun d => d.ok K) = true := congrArg (fun z : AlP => z.1) c
  have h2 : fn.map (fun d => fnW K d.at_) = fn.map DefD.val := congrArg (fun z : AlP => z.2.1) c
  have h3 : sn.map (fun d => fnS K d.at_) = sn.map DefS.val := congrArg (fun z : AlP => z.2.2.1) c
  show obsS fa ex fn sn K = valS fn sn
  unfold obsS valS
  rw [(ba h1).1, h2, h3]
theorem SaysP.fact (c : SaysP fa ex fn sn an K) (i : Nat) {f : Fa} (h : fa[i]? = some f := by rfl) : f.ok K = true := c.s.fact i h
theorem SaysP.def_ (c : SaysP fa ex fn sn an K) (i : Nat) {d : DefD} (h : fn[i]? = some d := by rfl) : ∃ fd, FunD K d.name d.qual d.params d.body d.scope (d.dvs K) (d.kws K) (fAd K d.at_) fd := c.s.def_ i h
end
theorem e_prop {W : WX} {Γ : Ctx} {M : List Re} {te : TE} {C : Addr} {sp : Sp} {E : XK} {κ : KV} {ε : KX} (h : EW W Γ M te (fun r0 M0 => (∀ v G, r0.p v G → ∃ a dx fs, v = .ref a ∧ G a = some (.ins C dx fs)) ∧ CM sp [r0] M0 κ) ε) : EW W Γ M (tProp C sp [] E te) κ ε := fun B G H σ o en Q q x =>
  h B G H σ o en _ (fun v0 G0 H0 r0 M0 h0 o0 e0 hv0 => by
    obtain ⟨hi, h1⟩ := h0
    obtain ⟨a, dx, fs, rfl, h2⟩ := hi _ _ hv0
    exact ⟨a, dx, fs, rfl, o0.i _ _ h2, h1 E B G0 H0 [.ref a] o0 (.cons hv0 .nil) Q (q.up e0)⟩) x
theorem ins_is {C : Addr} {fs : FL} : ∀ v G, (rIns C fs).p v G → ∃ a dx ws, v = .ref a ∧ G a = some (.ins C dx ws) := fun v G h => by
  obtain ⟨a, dx, ws, rfl, h2, _⟩ := h
  exact ⟨a, dx, ws, rfl, h2⟩
section
variable {X : Cx} {CX : CXT} {k : Nat} {f C : Addr} {fd : FuncData} {ps : List Str} {sp : Sp} {m : Str} {pos apos : Pos} {e o : Expr} {es : List Expr} {t : TA} {ta : TE}
def tMethS (C : Addr) (m : Str) (sp : Sp) (E : L2.St → XK) (ta : TE) (t : TA) : TE := fun σ H Q => ta σ H fun x H1 => ∃ a dx fs, x = .ref a ∧ H1 a = some (.ins C dx fs) ∧ fs.lookup m = none ∧ t σ H1 fun vs H2 => sp (x :: vs) H2 Q (E σ)
end
theorem e_methS {W : WX} {Γ : Ctx} {M : List Re} {te : TE} {ta : TA} {f : Str} {C : Addr} {sp : Sp} {κ : KV} {ε : KX} (h : EW W Γ M te (fun r0 M0 => InsR C f r0 ∧ EA W Γ M0 ta (fun rs M1 => XM sp (r0 :: rs) M1 κ ε) ε) ε) : EW W Γ M (tMethS C f sp (WE W) te ta) κ ε := fun B G H σ o en Q q x =>
  h B G H σ o en _ (fun v0 G0 H0 r0 M0 h0 o0 e0 hv0 => by
    obtain ⟨hi, h1⟩ := h0
    obtain ⟨a, dx, fs, rfl, h2, h3⟩ := hi _ _ hv0
    exact ⟨a, dx, fs, rfl, o0.i _ _ h2, h3, h1 B G0 H0 σ o0 (en.mono e0) _ (fun vs G1 H1 rs M1 k1 o1 e1 ra => k1 B G1 H1 _ W σ o1 (.cons (r0.mono e1 hv0) ra) Q (q.up (e0.trans e1)) (x.up (e0.trans e1))) (x.up e0)⟩) x
theorem x_inTi {Γ : Ctx} {ta tb : TE} {K : PySem.W.Frag} {a : Int} {l : List Int} (neg : Bool) (ha : EvX Γ ta (rI a)) (hb : EvX Γ tb (rT K (l.map rI))) : EvX Γ (tOp (rIn K neg) ta tb) (rB (if neg then !decide (a ∈ l) else decide (a ∈ l))) := fun σ G en =>
  Ev.d (ev_op2 (ha σ G en) (hb σ G en) fun x y H hx hy Q q => by
    obtain rfl : x = V.int a := hx
    obtain ⟨p, vs, rfl, h1, h2⟩ := hy
    have e := ra_ints_eq h2
    subst e
    exact ⟨p, _, rfl, .inr h1, rfl, ints_flatI l, by rw [inV_int]; exact q⟩)
abbrev NOut := List Rp ⊕ (Value × List (Str × V))
section
variable {W : WX} {Γ : Ctx} {M : List Re} {rs ss : List Rp} {K : PySem.W.Frag} {κ : KV} {ε : KX} {R : List V → Hp → NOut → Prop} {o : NOut}
end
end Mu

namespace Mu
open PySem PySem.Spec PyProof.Rows L2 He Evl
end Mu

namespace Mu
open PySem PySem.Spec PyProof.Rows L2 Evl
section
variable {B : Ba} {G H G2 H2 : Hp} {M : List Re} {W : WX} {Γ Γ' Γ1 : Ctx} {te ta tb tl : TE} {t : TT} {K : PySem.W.Frag} {κ : KV} {ε : KX} {r r0 : Rp} {rs rs0 : List Rp} {i j k n : Nat} {p C : Addr} {fs : FL} {vs : List Nat}
theorem En.put {v : V} (q : r.p v G) : ∀ {σ : L2.St} {Γ : Ctx} {i : Nat}, En σ G Γ → σ[i]? = some (some v) → En σ G (Γ.set i (some r))
  | _, _, _, .nil, _ => .nil
  | _, _, 0, .cons _ t, e => .cons (fun x hx => ⟨v, by simpa using e, by cases hx; exact q⟩) t
  | _, _, i + 1, .cons h t, e => .cons h (En.put q t (by simpa using e))
end
section
variable {W : WX} {Γ : Ctx} {M : List Re} {te ta tb tl : TE} {K : PySem.W.Frag} {κ : KV} {ε : KX} {i j n : Nat} {vs : List Nat} {α : Type}
end
section
variable {B : Ba} {G H : Hp} {M M1 M2 : List Re} {W : WX} {Γ : Ctx} {te : TE} {t : TS} {κ : Kn} {ε : KX} {K : PySem.W.Frag} {rs rs0 : List Rp} {p : Addr}
end
end Mu

namespace Mu
open PySem PySem.Spec PyProof.Rows L2 Evl
section
variable {M : Model} {A : Around} {E : Value → Shared → Prop} {s₀ s : Shared} {m cm : Str → Option Value} {env : Env} {own : List (Str × Addr)}
end
section
variable {CX CX2 : CXT} {P : Program} {w : World} {K : PySem.W.Frag} {mg : Str → Option Value} {base : Heap} {N ps ps2 : List Str} {x qual : Str} {params : Arguments} {body : List Stmt} {scope : Scope} {file : Str} {D f f2 : Addr} {fd fd2 : FuncData} {cda cc : Addr} {A : Around} {outer : List Env} {s0 : Shared} {H0 : Hp} {E0 : XK}
  {pins : List (Addr × Obj)} {σ : L2.St} {H : Hp} {s : Shared} {fb : List Stmt} {E : Value → Shared → Prop} {k2 : Nat} {sp2 : Sp} {m : Str}
end
theorem e_sup {W : WX} {Γ : Ctx} {M : List Re} {K : PySem.W.Frag} {C D f2 : Addr} {m : Str} {sp : Sp} {ta : TA} {κ : KV} {ε : KX} {fs : FL} (h0 : Γ[0]? = some (some (rIns C fs))) (hm : SupF K C D m f2)
    (h : EA W Γ M ta (fun rs M1 => XM sp (rIns C fs :: rs) M1 κ ε) ε) : EW W Γ M (tSup K D m f2 sp (WE W) ta) κ ε := fun B G H σ o en Q q x => by
  obtain ⟨u, hu1, hu2⟩ := en.get h0
  obtain ⟨a, dx, ws, rfl, h2, h3⟩ := id hu2
  refine ⟨a, C, dx, ws, hu1, o.i _ _ h2, hm.mro, hm.sup, h B G H σ o en _ (fun vs G1 H1 rs M1 z o1 e1 ra => ?_) x⟩
  exact z B G1 H1 _ W σ o1 (.cons ((rIns C fs).mono e1 hu2) ra) Q (q.up e1) (x.up e1)
end Mu

namespace Mu
open PySem PySem.Spec PyProof.Rows L2 He Evl
section
variable {W : WX} {Γ : Ctx} {M : List Re} {rs : List Rp} {K : PySem.W.Frag} {κ : KV} {ε : KX} {R : List V → Hp → List Re → KV → KX → Prop}
end
section
variable {K : PySem.W.Frag} {C D : Addr} {H G : Hp} {fs : FL} {Γ : Ctx} {te ta tb : TE} {tt : TT} {r : Rp} {W : WX} {M : List Re} {κ : KV} {ε : KX} {rs : List Rp} {p : Addr} {k : Nat}
theorem ty_ins (c : IsC K C) {v : V} (h : (rIns C fs).p v H) : TyX K H v (.ref C) := by
  obtain ⟨a, dx, ws, rfl, h2, _⟩ := h
  exact .base (.ins h2 c.c c.a c.g c.t c.m)
theorem x_isIns {b : Bool} (c : IsC K C) (hk : PySem.W.kitOne K (.ref C) (.ref D) = some b) (h : EvX Γ te (rIns C fs)) : EvX Γ (tCB (rIsi K) (tCons te (tCons (tC (.ref D)) tNil))) (rB b) := fun σ G en => Ev.d (ev_isi (h σ G en) (.own _) fun v H hv => ⟨_, ty_ins c hv, hk⟩)
theorem am_listOwn (k : Nat) (hk : M[k]? = some (lstR p rs)) (kk : κ (rL K rs) M) : AM (rListS K) [rV (.ref p)] M κ := fun B G H vs o ra Q q => by
  obtain ⟨x, rfl, hx⟩ := ra1 ra
  obtain rfl : x = V.ref p := hx
  obtain ⟨ws, h1, h2⟩ := o.m _ (List.mem_of_getElem? hk)
  refine ⟨p, ws, rfl, .inl (sq_of h1), fun l hl => ?_⟩
  have g := Gr.new (o := .lst ws) o.i hl
  exact q _ _ _ (rL K rs) M kk (o.gr g) g.g ⟨l, ws, rfl, upd_same, h2.mono g.g⟩
end
theorem x_lenLm' {Γ : Ctx} {te : TE} {K : PySem.W.Frag} {rs : List Rp} (h : EvX Γ te (rL K rs)) : EvX Γ (tCB (rLenS K) (tCons te tNil)) (nI rs.length) := x_lenL h
mutual
theorem eqv_refl : ∀ d : PyData, d.canLay0 = true → PyData.eqv d d = true
  | .none, _ => by simp [PyData.eqv]
  | .bool b, _ => by simp [PyData.eqv]
  | .int i, _ => by simp [PyData.eqv]
  | .str s, _ => by simp [PyData.eqv]
  | .list xs, h => by
    unfold PyData.canLay0 at h
    rw [PyData.eqv]
    exact eqvAll_refl xs h
  | .tuple xs, h => by
    unfold PyData.canLay0 at h
    rw [PyData.eqv]
    exact eqvAll_refl xs h
  | .dict _, h => by
    unfold PyData.canLay0 at h
    cases h
theorem eqvAll_refl : ∀ ds : List PyData, PyData.canLayAll0 ds = true → PyData.eqvAll ds ds = true
  | [], _ => by simp [PyData.eqvAll]
  | d :: ds, h => by
    unfold PyData.canLayAll0 at h
    obtain ⟨h1, h2⟩ := Bool.and_eq_true_iff.mp h
    rw [PyData.eqvAll, eqv_refl d h1, eqvAll_refl ds h2]; rfl
end
structure Dt (K : PySem.W.Frag) (k : Nat) (r : Rp) (d : PyData) : Prop where
  as : AsD K r d
  sh : Sh k d
section
variable {K : PySem.W.Frag} {k j : Nat} {r : Rp} {d d1 d2 : PyData} {rs : List Rp} {ds : List PyData} {α : Type} {ρ : α → Rp} {δ : α → PyData} {Γ : Ctx} {ta tb : TE}
theorem dt_s {s : Str} (h : (PyData.str s).canLay0 = true) : Dt K 1 (rS s) (.str s) := ⟨asd_str s, h, by unfold PyData.depth; omega⟩
theorem dt_l (h : ∀ a, Dt K k (ρ a) (δ a)) (l : List α) : Dt K (k + 1) (rL K (l.map ρ)) (.list (l.map δ)) := ⟨asd_list (fun a => (h a).as) l, sh_list (fun a => (h a).sh) l⟩
theorem x_eqS (a1 : Dt K k r d) (hk : k ≤ 64) (ha : EvX Γ ta r) (hb : EvX Γ tb r) : EvX Γ (tOp (rEqD K) ta tb) (rB true) := x_is (x_eqD ha hb a1.as a1.as (a1.sh.ok hk) (a1.sh.ok hk)) (by rw [eqv_refl d a1.sh.1])
theorem x_neS (a1 : Dt K k r d) (hk : k ≤ 64) (ha : EvX Γ ta r) (hb : EvX Γ tb r) : EvX Γ (tOp (rNeD K) ta tb) (rB false) := x_is (x_neD ha hb a1.as a1.as (a1.sh.ok hk) (a1.sh.ok hk)) (by rw [eqv_refl d a1.sh.1]; rfl)
end
end Mu

namespace Mu
open PySem PySem.Spec PyProof.Rows L2 He Evl
structure Itm {β : Type} (G1 : Hp) (J : It) (l : List β) (ρ : β → Rp) : Prop where
  goes : ∀ i H, i < l.length → Ex G1 H → J.go i H
  stops : ∀ H, Ex G1 H → J.stop l.length H
  yld : ∀ i H x H', i < l.length → Ex G1 H → J.yld i H x H' → H' = H ∧ ∀ a, l[i]? = some a → (ρ a).p x G1
def IX {β : Type} (Γ : Ctx) (ti : TI) (l : List β) (ρ : β → Rp) : Prop := ∀ σ G, En σ G Γ → ∀ H, Ex G H → ∀ R : It → Hp → Prop, (∀ G1 H1 J, Gr G H G1 H1 → Itm G1 J l ρ → R J H1) → ti σ H R
section
variable {W : WX} {Γ : Ctx} {M : List Re} {te ta tb tl td : TE} {t : TT} {K : PySem.W.Frag} {i j n : Nat} {vs : List Nat} {β α : Type} {ti : TI} {l : List β} {ρ : β → Rp} {tu : TS} {κ : Kn} {r : Rp}
theorem lc_I {J : It} {n : Nat} {g : TG} {tt : TT} {te : TE} {vs : List Nat} {σ : L2.St} {H1 : Hp} {D : Addr} {Qd : Hp → Prop} (Pv : Nat → Hp → Prop) (h0 : Pv 0 (upd H1 D (.lst []))) (hgo : ∀ i H, i < n → Pv i H → J.go i H) (hst : ∀ H, Pv n H → J.stop n H)
    (hs : ∀ i H x H', i < n → Pv i H → J.yld i H x H' → g x (wipe σ vs) H' fun σ2 H2 => wipe σ2 vs = wipe σ vs ∧ tt σ2 H2 fun b H3 =>
      if b = true then te σ2 H3 fun y H4 => ∃ acc, H4 D = some (.lst acc) ∧ acc.length < sizeLine ∧ Pv (i + 1) (upd H4 D (.lst (acc ++ [y]))) else Pv (i + 1) H3) (hd : ∀ H, Pv n H → Qd H) :
    ∃ W : Nat → Nat → Hp → Prop, (∃ m, W 0 m (upd H1 D (.lst []))) ∧ ∀ i m H, W i m H →
      (J.stop i H ∧ Qd H) ∨ (J.go i H ∧ ∃ Nx : Hp → Prop, (∀ H', Nx H' → ∃ m', m' < m ∧ W (i + 1) m' H') ∧ ∀ x H', J.yld i H x H' → g x (wipe σ vs) H' fun σ2 H2 => wipe σ2 vs = wipe σ vs ∧ tt σ2 H2 fun b H3 =>
        if b = true then te σ2 H3 fun y H4 => ∃ acc, H4 D = some (.lst acc) ∧ acc.length < sizeLine ∧ Nx (upd H4 D (.lst (acc ++ [y]))) else Nx H3) := by
  refine ⟨fun i m H => m = n - i ∧ i ≤ n ∧ Pv i H, ⟨n, by simp, Nat.zero_le _, h0⟩, ?_⟩
  rintro i m H ⟨rfl, hi, p⟩
  by_cases c : i < n
  · exact .inr ⟨hgo i H c p, Pv (i + 1), fun H' z => ⟨n - (i + 1), by omega, rfl, c, z⟩, fun x H' y => hs i H x H' c p y⟩
  · have e : i = n := by omega
    subst e
    exact .inl ⟨hst H p, hd H p⟩
theorem xn_lcI {f : β → Bool} {rr : β → Rp} (h : IX Γ ti l ρ) (hz : l.length ≤ 40000) (ht : ∀ a, a ∈ l → EvTX ((wipeC Γ vs).set j (some (ρ a))) t (f a)) (he : ∀ a, a ∈ l → f a = true → EvX ((wipeC Γ vs).set j (some (ρ a))) te (rr a)) (hj : j ∈ vs) : EvNX Γ (tLc ti (gName j) t te vs) ((l.filter f).map rr) := fun σ G en H0 e Q q => by
  refine h σ G en H0 e _ fun G1 H1 J g1 it Dl hD => ?_
  refine lc_I (n := l.length) (fun i H' => Cm G1 H1 Dl (((l.take i).filter f).map rr) H') (cm_start g1.i hD) (fun i H' hi p => ?_) (fun H' p => ?_) (fun i H' x H'' hi p y => ?_) (fun H' p => ?_)
  · obtain ⟨_, G', ws, g, _, _, _⟩ := p
    exact it.goes i H' hi (g.g.trans g.i)
  · obtain ⟨_, G', ws, g, _, _, _⟩ := p
    exact it.stops H' (g.g.trans g.i)
  · have ex : Ex G1 H' := by
      obtain ⟨_, G', ws, g, _, _, _⟩ := id p
      exact g.g.trans g.i
    obtain ⟨rfl, hx⟩ := it.yld i H' x H'' hi ex y
    obtain ⟨b, hb⟩ : ∃ b, l[i]? = some b := ⟨_, List.getElem?_eq_getElem hi⟩
    have hm : b ∈ l := List.mem_of_getElem? hb
    exact ⟨wipe_turn σ hj _, cm_step hb hz p (fun G2 e1 e2 => ht b hm _ G2 (en_at (en.mono (g1.g.trans e1)) ((ρ b).mono e1 (hx b hb)))) (fun hf G2 e1 e2 => he b hm hf _ G2 (en_at (en.mono (g1.g.trans e1)) ((ρ b).mono e1 (hx b hb))))⟩
  · obtain ⟨p1, G', ws, g, hG, hD', ra⟩ := p
    rw [List.take_length] at ra
    exact q Dl ws G' H' (g1.trans g) (fresh_back g1.h p1) hG hD' ra
theorem xn_lcI0 {rr : β → Rp} (h : IX Γ ti l ρ) (hz : l.length ≤ 40000) (he : ∀ a, a ∈ l → EvX ((wipeC Γ vs).set j (some (ρ a))) te (rr a)) (hj : j ∈ vs) : EvNX Γ (tLc ti (gName j) tYes te vs) (l.map rr) := xn_is (xn_lcI (f := fun _ => true) h hz (fun _ _ => t_yes) (fun a ha _ => he a ha) hj) filter_yes
end
def ltr (c : Nat) : Str := ⟨#[c]⟩
abbrev rC (c : Nat) : Rp := rV (.str (ltr c))
section
variable {W : WX} {Γ : Ctx} {M : List Re} {te ta tb tl td : TE} {K : PySem.W.Frag} {n c : Nat} {s z : Str} {r : Rp} {κ : KV} {ε : KX}
theorem ix_S (h : EvX Γ te (rV (.str s))) : IX Γ (iStr te) s.cps.toList rC := fun σ G en H e R q => h σ G en H e _ fun v G1 H1 g1 hv => by
  obtain rfl : v = V.str s := hv
  refine ⟨s, rfl, q G1 H1 _ g1 ⟨fun i H' hi ex => ?_, fun H' ex => ?_, fun i H' x H'' hi ex y => ?_⟩⟩
  · show i < s.cps.size
    simpa using hi
  · show s.cps.size ≤ s.cps.toList.length
    simp
  · obtain ⟨y1, c, y2, rfl⟩ := y
    refine ⟨y1, fun b hb => ?_⟩
    have : b = c := by
      have e2 : s.cps.toList[i]? = some c := by simpa using y2
      rw [e2] at hb
      exact (Option.some.inj hb).symm
    rw [this]; rfl
def rInS : R2 := fun x y H Q => ∃ i j, x = .str i ∧ y = .str j ∧ Q (.bl (!(Builtin.Str.occurrences j i 0 j.length 1).isEmpty)) H
def rNotInS : R2 := fun x y H Q => ∃ i j, x = .str i ∧ y = .str j ∧ Q (.bl (!(!(Builtin.Str.occurrences j i 0 j.length 1).isEmpty))) H
def rLtS : R2 := fun x y H Q => ∃ i j, x = .str i ∧ y = .str j ∧ Q (.bl (decide (i.cps.toList < j.cps.toList))) H
def rAddT : R2 := fun x y H Q => ∃ i j, x = .str i ∧ y = .str j ∧ i.length + j.length ≤ sizeLine ∧ Q (.str (i ++ j)) H
def rLenT : List V → Hp → VK → Prop := fun xs H Q => ∃ z, xs = [.str z] ∧ z.length ≤ sizeLine ∧ Q (.int z.length) H
def rFind : V → List V → Hp → VK → Prop := fun x xs H Q => ∃ a b, x = .str a ∧ xs = [.str b] ∧ Q (.int (Txt.find a b)) H
theorem op_addT {X : Cx} : OpR X (binaryOp .Add) rAddT := op_add_str
theorem call_lenT {X : Cx} : CallR X (.builtin "len") rLenT := call_len_str
theorem mt_findT {X : Cx} : MtR X "str.find" rFind := mt_find
def inS (i j : Str) : Bool := !(Builtin.Str.occurrences j i 0 j.length 1).isEmpty
theorem x_inS (ha : EvX Γ ta (rV (.str s))) (hb : EvX Γ tb (rV (.str z))) : EvX Γ (tOp rInS ta tb) (rB (inS s z)) := fun σ G en => Ev.d (ev_op2 (ha σ G en) (hb σ G en) fun x y H hx hy Q q => by
  obtain rfl : x = V.str s := hx
  obtain rfl : y = V.str z := hy
  exact ⟨s, z, rfl, rfl, q⟩)
theorem x_niS (ha : EvX Γ ta (rV (.str s))) (hb : EvX Γ tb (rV (.str z))) : EvX Γ (tOp rNotInS ta tb) (rB (!inS s z)) := fun σ G en => Ev.d (ev_op2 (ha σ G en) (hb σ G en) fun x y H hx hy Q q => by
  obtain rfl : x = V.str s := hx
  obtain rfl : y = V.str z := hy
  exact ⟨s, z, rfl, rfl, q⟩)
theorem x_ltS (ha : EvX Γ ta (rV (.str s))) (hb : EvX Γ tb (rV (.str z))) : EvX Γ (tOp rLtS ta tb) (rB (decide (s.cps.toList < z.cps.toList))) := fun σ G en => Ev.d (ev_op2 (ha σ G en) (hb σ G en) fun x y H hx hy Q q => by
  obtain rfl : x = V.str s := hx
  obtain rfl : y = V.str z := hy
  exact ⟨s, z, rfl, rfl, q⟩)
theorem x_addT (ha : EvX Γ ta (rV (.str s))) (hb : EvX Γ tb (rV (.str z))) (hl : s.length + z.length ≤ 100000) : EvX Γ (tOp rAddT ta tb) (rV (.str (s ++ z))) := fun σ G en => Ev.d (ev_op2 (ha σ G en) (hb σ G en) fun x y H hx hy Q q => by
  obtain rfl : x = V.str s := hx
  obtain rfl : y = V.str z := hy
  exact ⟨s, z, rfl, rfl, sz_of hl, q⟩)
theorem x_ixS (ha : EvX Γ ta (rV (.str s))) (hb : EvX Γ tb (nI n)) (hl : s.length ≤ 100000) (hc : s.cps.toList[n]? = some c) : EvX Γ (tOp rIxS ta tb) (rC c) := fun σ G en => Ev.d (ev_op2 (ha σ G en) (hb σ G en) fun x y H hx hy Q q => by
  obtain rfl : x = V.str s := hx
  obtain rfl : y = V.int (n : Int) := hy
  exact ⟨s, _, c, rfl, rfl, sz_of hl, atI_nat hc, q⟩)
theorem am_lenT (hl : s.length ≤ 100000) (k : κ (nI s.length) M) : AM rLenT [rV (.str s)] M κ := fun B G H vs o ra Q q => by
  obtain ⟨x, rfl, hx⟩ := ra1 ra
  obtain rfl : x = V.str s := hx
  exact ⟨s, rfl, sz_of hl, q _ G H _ M k o (Ex.refl _) rfl⟩
theorem e_find (h : EW W Γ M te (fun r1 M1 => ∃ a, r1 = rV (.str a) ∧ EW W Γ M1 ta (fun r2 M2 => ∃ b, r2 = rV (.str b) ∧ κ (rI (Txt.find a b)) M2) ε) ε) : EW W Γ M (tBM K "str" rFind te (tCons ta tNil)) κ ε := fun B G H σ o en Q q x =>
  h B G H σ o en _ (fun v1 G1 H1 r1 M1 h1 o1 e1 hv1 => by
    obtain ⟨a, rfl, h2⟩ := h1
    obtain rfl : v1 = V.str a := hv1
    refine ⟨?_, h2 B G1 H1 σ o1 (en.mono e1) _ (fun v2 G2 H2 r2 M2 h3 o2 e2 hv2 => ?_) (x.up e1)⟩
    · exact rfl
    · obtain ⟨b, rfl, k⟩ := h3
      obtain rfl : v2 = V.str b := hv2
      exact ⟨a, b, rfl, rfl, q _ G2 H2 _ M2 k o2 (e1.trans e2) rfl⟩) x
end
end Mu

namespace Mu
open PySem PySem.Spec PyProof.Rows L2 He Evl
section
variable {α : Type}
def valA (kvs : List (Key × α)) (k : Key) : Option α := (kvs.find? fun kv => decide (kv.1 = k)).map (·.2)
def putA (kvs : List (Key × α)) (k : Key) (v : α) : List (Key × α) := if (kvs.any fun kv => decide (kv.1 = k)) = true then kvs.map (fun kv => if kv.1 = k then (kv.1, v) else kv) else kvs ++ [(k, v)]
def dropA (kvs : List (Key × α)) (k : Key) : List (Key × α) := kvs.filter fun kv => decide (kv.1 ≠ k)
end
abbrev DkR (G : Hp) : List (Key × V) → List (Key × Rp) → Prop := Paired fun a b => a.1 = b.1 ∧ b.2.p a.2 G
section
variable {G G' : Hp} {ws : List (Key × V)} {kvs : List (Key × Rp)} {k : Key} {v : V} {r : Rp}
theorem DkR.mono (e : Ex G G') (h : DkR G ws kvs) : DkR G' ws kvs := Paired.mono (fun _ b z => ⟨z.1, b.2.mono e z.2⟩) h
theorem DkR.len (h : DkR G ws kvs) : ws.length = kvs.length := Paired.length h
theorem DkR.keys (h : DkR G ws kvs) : ws.map (·.1) = kvs.map (·.1) := by
  induction h with
  | nil => rfl
  | cons a t ih => rw [List.map_cons, List.map_cons, a.1, ih]
theorem DkR.val (h : DkR G ws kvs) (k : Key) : match valA kvs k with
    | some r => ∃ v, valV ws k = some v ∧ r.p v G
    | none => valV ws k = none := by
  induction h with
  | nil => rfl
  | @cons a b as bs ha t ih =>
    unfold valA valV at ih ⊢
    rw [List.find?_cons, List.find?_cons, ha.1]
    by_cases c : b.1 = k
    · rw [decide_eq_true c]
      exact ⟨a.2, rfl, ha.2⟩
    · rw [decide_eq_false c]
      exact ih
theorem DkR.any (h : DkR G ws kvs) (k : Key) : (ws.any fun kv => decide (kv.1 = k)) = kvs.any fun kv => decide (kv.1 = k) := by
  induction h with
  | nil => rfl
  | cons a t ih => rw [List.any_cons, List.any_cons, a.1, ih]
theorem DkR.repl (h : DkR G ws kvs) (hr : r.p v G) : DkR G (ws.map fun kv => if kv.1 = k then (kv.1, v) else kv) (kvs.map fun kv => if kv.1 = k then (kv.1, r) else kv) := by
  induction h with
  | nil => exact .nil
  | @cons a b as bs ha t ih =>
    refine .cons ?_ ih
    dsimp only
    rw [ha.1]
    by_cases c : b.1 = k
    · rw [if_pos c, if_pos c]; exact ⟨rfl, hr⟩
    · rw [if_neg c, if_neg c]; exact ha
theorem DkR.snoc (h : DkR G ws kvs) (hr : r.p v G) : DkR G (ws ++ [(k, v)]) (kvs ++ [(k, r)]) := by
  induction h with
  | nil => exact .cons ⟨rfl, hr⟩ .nil
  | cons a t ih => exact .cons a ih
theorem DkR.put (h : DkR G ws kvs) (hr : r.p v G) : DkR G (putK ws k v) (putA kvs k r) := by
  unfold putK putA
  rw [h.any k]
  split
  · exact h.repl hr
  · exact h.snoc hr
theorem DkR.drop (h : DkR G ws kvs) : DkR G (dropK ws k) (dropA kvs k) := by
  unfold dropK dropA
  induction h with
  | nil => exact .nil
  | @cons a b as bs ha t ih =>
    rw [List.filter_cons, List.filter_cons, ha.1]
    split
    · exact .cons ha ih
    · exact ih
end
def rD (z : Bool) (kvs : List (Key × Rp)) : Rp := ⟨fun v G => ∃ d ws, v = .ref d ∧ ((∃ o, G d = some (.frz o (.dK ws))) ∨ (z = false ∧ G d = some (.dK ws))) ∧ DkR G ws kvs, fun e ⟨d, ws, h1, h2, h3⟩ => ⟨d, ws, h1, h2.imp (fun ⟨o, q⟩ => ⟨o, e _ _ q⟩) (fun q => ⟨q.1, e _ _ q.2⟩), h3.mono e⟩⟩
def rDGet : R2 := fun x y H Q => ∃ a v, x = .ref a ∧ DGet H a y (some v) ∧ Q v H
def rDIn : R2 := fun y x H Q => ∃ a o, x = .ref a ∧ DGet H a y o ∧ Q (.bl o.isSome) H
def rDNotIn : R2 := fun y x H Q => ∃ a o, x = .ref a ∧ DGet H a y o ∧ Q (.bl (!o.isSome)) H
def rLenD : List V → Hp → VK → Prop := fun xs H Q => ∃ a kvs, xs = [V.ref a] ∧ Rd H a (.dK kvs) ∧ Q (.int kvs.length) H
section
variable {X : Cx} {o i : Expr} {pos : Pos} {td ty : TE}
end
section
variable {W : WX} {Γ : Ctx} {M : List Re} {te ta tb tv td : TE} {K : PySem.W.Frag} {n i j idx : Nat} {r : Rp} {κ : KV} {ε : KX} {kvs : List (Key × Rp)} {z : Bool} {k : Key} {p : Addr}
theorem rD_get {v : V} {G H : Hp} (h : (rD z kvs).p v G) (e : Ex G H) : ∃ d ws, v = .ref d ∧ Rd H d (.dK ws) ∧ DkR G ws kvs := by
  obtain ⟨d, ws, rfl, h2, h3⟩ := h
  refine ⟨d, ws, rfl, ?_, h3⟩
  rcases h2 with ⟨o, q⟩ | ⟨_, q⟩
  · exact .inr ⟨o, e _ _ q⟩
  · exact .inl (e _ _ q)
theorem om_dget (hv : valA kvs k = some r) (kk : κ r M) : OM rDGet (rD z kvs) (rV (kV k)) M κ := fun B G H x y o hx hy Q q => by
  obtain ⟨d, ws, rfl, h2, h3⟩ := rD_get hx o.i
  obtain rfl : y = kV k := hy
  have hh := h3.val k
  rw [hv] at hh
  obtain ⟨v, h4, h5⟩ := hh
  exact ⟨d, v, rfl, .inl ⟨ws, k, h2, rfl, h4.symm⟩, q v G H r M kk o (Ex.refl _) h5⟩
theorem DkR.isSome {G : Hp} {ws : List (Key × V)} (h : DkR G ws kvs) (k : Key) : (valV ws k).isSome = (valA kvs k).isSome := by
  have hh := h.val k
  cases e : valA kvs k with
  | none => rw [e] at hh; rw [hh]; rfl
  | some r => rw [e] at hh; obtain ⟨v, h4, _⟩ := hh; rw [h4]; rfl
theorem om_din (kk : κ (rB (valA kvs k).isSome) M) : OM rDIn (rV (kV k)) (rD z kvs) M κ := fun B G H y x o hy hx Q q => by
  obtain ⟨d, ws, rfl, h2, h3⟩ := rD_get hx o.i
  obtain rfl : y = kV k := hy
  exact ⟨d, _, rfl, .inl ⟨ws, k, h2, rfl, rfl⟩, q _ G H _ M kk o (Ex.refl _) (by rw [h3.isSome k]; rfl)⟩
theorem om_dni (kk : κ (rB (!(valA kvs k).isSome)) M) : OM rDNotIn (rV (kV k)) (rD z kvs) M κ := fun B G H y x o hy hx Q q => by
  obtain ⟨d, ws, rfl, h2, h3⟩ := rD_get hx o.i
  obtain rfl : y = kV k := hy
  exact ⟨d, _, rfl, .inl ⟨ws, k, h2, rfl, rfl⟩, q _ G H _ M kk o (Ex.refl _) (by rw [h3.isSome k]; rfl)⟩
theorem am_lenD (kk : κ (nI kvs.length) M) : AM rLenD [rD z kvs] M κ := fun B G H vs o ra Q q => by
  obtain ⟨x, rfl, hx⟩ := ra1 ra
  obtain ⟨d, ws, rfl, h2, h3⟩ := rD_get hx o.i
  exact ⟨d, ws, rfl, h2, q _ G H _ M kk o (Ex.refl _) (by rw [h3.len]; rfl)⟩
end
section
variable {B : Ba} {G H : Hp} {M : List Re} {W : WX} {Γ : Ctx} {t : TS} {κ : Kn} {kvs : List (Key × Rp)} {p : Addr} {i k : Nat} {od : Obj}
end
end Mu

namespace Mu
open PySem PySem.Spec PyProof.Rows L2 He Evl StX
def lentO (cs : Addr → Bool) : HO → Bool
  | .lst _ => true
  | .dK _ => true
  | .ins C _ _ => cs C
  | .frz _ (.dK _) => true
  | .dT _ => true
  | .frz _ (.dT _) => true
  | _ => false
def borX (cs : Addr → Bool) (G H : Hp) (M : List Re) : Hp := fun a => match G a with
  | some o => some o
  | none => if a ∈ feet M then (match H a with
    | some o => if lentO cs o = true then some o else none
    | none => none) else none
def nlX (cs : Addr → Bool) (G : Hp) : Hp := fun a => match G a with
  | some o => if lentO cs o = true then none else some o
  | none => none
section
variable {B : Ba} {G H G2 H2 : Hp} {M : List Re} {W : WX} {Γ Γ' Γ1 : Ctx} {te ta tb tl : TE} {t : TT} {K : PySem.W.Frag} {κ : KV} {ε : KX} {r r0 : Rp} {rs rs0 : List Rp} {i j k n : Nat} {p C : Addr} {fs : FL} {vs : List Nat} {cs : Addr → Bool}
theorem borX_g : Ex G (borX cs G H M) := fun a o z => by
  unfold borX
  rw [z]
theorem borX_i (e : Ex G H) : Ex (borX cs G H M) H := fun a o z => by
  unfold borX at z
  cases q : G a with
  | some u =>
    rw [q] at z
    cases z
    exact e _ _ q
  | none =>
    rw [q] at z
    by_cases c : a ∈ feet M
    · rw [if_pos c] at z
      cases y : H a with
      | none => rw [y] at z; cases z
      | some u =>
        rw [y] at z
        dsimp only at z
        split at z
        · exact z
        · cases z
    · rw [if_neg c] at z
      cases z
theorem borX_no {a : Addr} (hg : G a = none) (hf : a ∉ feet M) : borX cs G H M a = none := by
  unfold borX
  rw [hg, if_neg hf]
theorem borX_at {a : Addr} {o : HO} (hg : G a = none) (hf : a ∈ feet M) (h : H a = some o) (hl : lentO cs o = true) : borX cs G H M a = some o := by
  unfold borX
  rw [hg, if_pos hf, h]
  dsimp only
  rw [if_pos hl]
theorem borX_nl {a : Addr} {o : HO} (hg : G a = none) (h : H a = some o) (hl : lentO cs o = false) : borX cs G H M a = none := by
  unfold borX
  rw [hg]
  by_cases c : a ∈ feet M
  · rw [if_pos c, h]
    dsimp only
    rw [hl]; rfl
  · rw [if_neg c]
theorem nlX_at {a : Addr} {o : HO} (h : nlX cs G a = some o) : G a = some o ∧ lentO cs o = false := by
  unfold nlX at h
  cases q : G a with
  | none => rw [q] at h; cases h
  | some u =>
    rw [q] at h
    dsimp only at h
    split at h
    · cases h
    · rename_i c
      cases h
      exact ⟨rfl, by simpa using c⟩
theorem Ok.borX (o : Ok B G H M) (g : Gr (borX cs G H M) H G2 H2) : ∃ G3, Gr G H G3 H2 ∧ Ex (nlX cs G2) G3 ∧ ∀ a u, G3 a = some u → G2 a = some u := by
  refine ⟨fun a => if a ∈ feet M then none else G2 a, ⟨fun a u z => ?_, g.h, fun a u z => ?_, fun a u z t y => ?_⟩, fun a u z => ?_, fun a u z => ?_⟩
  · have c : a ∉ feet M := fun q => by rw [o.z a q] at z; cases z
    show (if a ∈ feet M then none else G2 a) = some u
    rw [if_neg c]
    exact g.g a u (borX_g a u z)
  · have z' : (if a ∈ feet M then none else G2 a) = some u := z
    by_cases c : a ∈ feet M
    · rw [if_pos c] at z'; cases z'
    · rw [if_neg c] at z'; exact g.i a u z'
  · show (if a ∈ feet M then none else G2 a) = none
    by_cases c : a ∈ feet M
    · rw [if_pos c]
    · rw [if_neg c]
      exact g.n a u z t (borX_no y c)
  · obtain ⟨z1, z2⟩ := nlX_at z
    show (if a ∈ feet M then none else G2 a) = some u
    have c : a ∉ feet M := fun q => by
      have gz := o.z a q
      obtain ⟨R, hR, ha⟩ := List.mem_flatMap.mp q
      obtain ⟨w, hw, t⟩ := R.at_ (o.m R hR) a ha
      have hu := g.i a u z1
      rw [g.h a w hw] at hu
      cases hu
      have hb : Mu.borX cs G H M a = none := borX_nl gz hw z2
      rw [g.n a _ hw t hb] at z1
      cases z1
    rw [if_neg c]
    exact z1
  · have z' : (if a ∈ feet M then none else G2 a) = some u := z
    by_cases c : a ∈ feet M
    · rw [if_pos c] at z'; cases z'
    · rw [if_neg c] at z'; exact z'
def BxR (cs : Addr → Bool) (M : List Re) (r0 r : Rp) : Prop := ∀ B G H, Ok B G H M → ∀ v, r0.p v G → r.p v (borX cs G H M)
def BxC (cs : Addr → Bool) (M : List Re) (Γ Γ' : Ctx) : Prop := ∀ B G H σ, Ok B G H M → En σ G Γ → En σ (borX cs G H M) Γ'
theorem bx_refl : BxC cs M Γ Γ := fun B G H σ o en => en.mono borX_g
theorem bx_set (h : BxC cs M Γ Γ1) (hi : Γ[i]? = some (some r0)) (hr : BxR cs M r0 r) : BxC cs M Γ (Γ1.set i (some r)) := fun B G H σ o en => by
  obtain ⟨v, h1, h2⟩ := en.get hi
  exact En.put (hr B G H o v h2) (h B G H σ o en) h1
theorem bx_lst (hk : M[k]? = some (lstR p rs)) : BxR cs M (rV (.ref p)) (rL K rs) := fun B G H o v hv => by
  obtain rfl : v = V.ref p := hv
  have hm := List.mem_of_getElem? hk
  obtain ⟨ws, h1, h2⟩ := o.m _ hm
  have hf := mem_feet hm (List.mem_singleton.mpr rfl)
  exact ⟨p, ws, rfl, borX_at (o.z p hf) hf h1 rfl, h2.mono borX_g⟩
theorem et_bx (cs : Addr → Bool) {κ : Bool → List Re → Prop} {c : Bool} (hb : BxC cs M Γ Γ') (h : EvTX Γ' t c) (kk : κ c M) : ET W Γ M t κ ε := fun B G H σ o en Q q x =>
  h σ _ (hb B G H σ o en) H (borX_i o.i) Q fun H2 e => q c G H2 M kk (o.ex e) (Ex.refl _)
end
section
variable {W : WX} {Γ : Ctx} {M : List Re} {t : TS} {κ : Kn} {p C d : Addr} {fs : FL} {kvs : List (Key × Rp)} {i k : Nat} {B : Ba} {G H : Hp}
end
section
variable {CX : CXT} {P : Program} {w : World} {K : PySem.W.Frag} {mg : Str → Option Value} {base : Heap} {k : Nat} {f : Addr} {name qual : Str} {params : Arguments} {body : List Stmt} {scope : Scope} {N ps : List Str} {sp : Sp} {fd : FuncData}
end
theorem feet_perm {M M' : List Re} (h : M.Perm M') : (feet M).Perm (feet M') := by
  unfold feet
  exact h.flatMap_right _
theorem Ok.perm {B : Ba} {G H : Hp} {M M' : List Re} (o : Ok B G H M) (h : M.Perm M') : Ok B G H M' :=
  ⟨o.g, o.l, o.h, o.i, o.n, o.k, fun r hr => o.m r (h.mem_iff.mpr hr), fun a ha => o.z a ((feet_perm h).mem_iff.mpr ha), (feet_perm h).nodup_iff.mp o.d, fun r hr => o.f r (h.mem_iff.mpr hr)⟩
end Mu
theorem L2.Room.u1 {k : Nat} {A : PySem.Around} (r : L2.Room k A) : A.units + 1 < PySem.cLine := by have := r.un; omega

namespace Mu
open PySem PySem.Spec PyProof.Rows L2 He Evl
section
variable {W : WX} {Γ : Ctx} {M : List Re} {te ta tb tv td : TE} {K : PySem.W.Frag} {r : Rp} {κ : KV} {ε : KX} {kvs : List (Key × Rp)} {z : Bool} {s : Str} {p : Addr}
theorem om_dgetF (hv : valA kvs (.inr s) = some r) (kk : κ r M) : OM rDGet (rD z kvs) (rV (.str s)) M κ := om_dget (k := .inr s) hv kk
theorem om_dinF (kk : κ (rB (valA kvs (.inr s)).isSome) M) : OM rDIn (rV (.str s)) (rD z kvs) M κ := om_din (k := .inr s) kk
theorem om_dniF (kk : κ (rB (!(valA kvs (.inr s)).isSome)) M) : OM rDNotIn (rV (.str s)) (rD z kvs) M κ := om_dni (k := .inr s) kk
theorem IX.map {β γ : Type} {ti : TI} {l : List β} {f : β → γ} {ρ : γ → Rp} (h : IX Γ ti (l.map f) ρ) : IX Γ ti l (fun b => ρ (f b)) := fun σ G en H e R q => h σ G en H e R fun G1 H1 J g it => q G1 H1 J g ⟨fun i H hi ex => it.goes i H (by rw [List.length_map]; exact hi) ex, fun H ex => by
    have := it.stops H ex
    rw [List.length_map] at this
    exact this, fun i H x H' hi ex y => by
    obtain ⟨h1, h2⟩ := it.yld i H x H' (by rw [List.length_map]; exact hi) ex y
    exact ⟨h1, fun a ha => h2 (f a) (by rw [List.getElem?_map, ha]; rfl)⟩⟩
end
end Mu

namespace Mu
open PySem PySem.Spec PyProof.Rows L2 He Evl
def sL (l : List Nat) : Str := ⟨l.toArray⟩
abbrev rSt (l : List Nat) : Rp := rV (.str (sL l))
section
variable {l l' : List Nat} {n : Nat}
theorem sL_cps : (sL l).cps.toList = l := rfl
theorem sL_len : (sL l).length = l.length := by show l.toArray.size = _; simp
theorem sL_of (s : Str) : sL s.cps.toList = s := by
  unfold sL
  cases s
  simp
theorem sL_app : sL l ++ sL l' = sL (l ++ l') := by
  show (⟨l.toArray ++ l'.toArray⟩ : Str) = ⟨(l ++ l').toArray⟩
  simp
theorem sL_inj : sL l = sL l' ↔ l = l' := by
  unfold sL
  constructor
  · intro h
    injection h with h
    simpa using h
  · intro h; rw [h]
theorem cutS_to (h : n ≤ l.length) : cutS (sL l) none (some (n : Int)) = sL (l.take n) := by
  unfold cutS
  rw [HT.sIx_none, HT.sIx_nat, sL_len, Nat.min_eq_left h, List.drop_zero, Nat.sub_zero]
  rfl
theorem cutS_from (h : n ≤ l.length) : cutS (sL l) (some (n : Int)) none = sL (l.drop n) := by
  unfold cutS
  rw [HT.sIx_none, HT.sIx_nat, sL_len, Nat.min_eq_left h]
  show sL (((l.drop n)).take (l.length - n)) = _
  rw [List.take_of_length_le (by rw [List.length_drop]; omega)]
end
section
variable {W : WX} {Γ : Ctx} {M : List Re} {te tb : TE} {κ : KV} {ε : KX} {l l' : List Nat} {n : Nat} {r1 r2 : Rp}
theorem e_sSTo (hb : EvX Γ tb (nI n)) (h : EW W Γ M te (fun r M1 => ∃ l, r = rSt l ∧ n ≤ l.length ∧ l.length ≤ 100000 ∧ κ (rSt (l.take n)) M1) ε) : EW W Γ M (tSl rSlS te tNoPart (tPart tb)) κ ε := fun B G H σ o en Q q x =>
  h B G H σ o en _ (fun v G1 H1 r M1 h1 o1 e1 hv => by
    obtain ⟨l, rfl, h2, h3, kk⟩ := h1
    obtain rfl : v = V.str (sL l) := hv
    refine hb σ G1 (en.mono e1) H1 o1.i _ fun w G2 H2 g2 hw => ?_
    obtain rfl : w = V.int (n : Int) := hw
    refine ⟨_, rfl, sL l, rfl, sz_of (by rw [sL_len]; exact h3), ?_⟩
    rw [cutS_to h2]
    exact q _ G2 H2 _ M1 kk (o1.gr g2) (e1.trans g2.g) rfl) x
theorem e_sSFrom (hb : EvX Γ tb (nI n)) (h : EW W Γ M te (fun r M1 => ∃ l, r = rSt l ∧ n ≤ l.length ∧ l.length ≤ 100000 ∧ κ (rSt (l.drop n)) M1) ε) : EW W Γ M (tSl rSlS te (tPart tb) tNoPart) κ ε := fun B G H σ o en Q q x =>
  h B G H σ o en _ (fun v G1 H1 r M1 h1 o1 e1 hv => by
    obtain ⟨l, rfl, h2, h3, kk⟩ := h1
    obtain rfl : v = V.str (sL l) := hv
    refine hb σ G1 (en.mono e1) H1 o1.i _ fun w G2 H2 g2 hw => ?_
    obtain rfl : w = V.int (n : Int) := hw
    refine ⟨_, rfl, sL l, rfl, sz_of (by rw [sL_len]; exact h3), ?_⟩
    rw [cutS_from h2]
    exact q _ G2 H2 _ M1 kk (o1.gr g2) (e1.trans g2.g) rfl) x
theorem om_addL (hl : l.length + l'.length ≤ 100000) (k : κ (rSt (l ++ l')) M) : OM rAddT (rSt l) (rSt l') M κ := om (x_is (x_addT (x_v rfl) (x_v rfl) (by rw [sL_len, sL_len]; exact hl)) (by rw [sL_app])) k
theorem om_ixT {c : Nat} (hl : l.length ≤ 100000) (hc : l[n]? = some c) (k : κ (rC c) M) : OM rIxS (rSt l) (nI n) M κ := om (x_ixS (x_v rfl) (x_v rfl) (by rw [sL_len]; exact hl) hc) k
theorem am_lenL (hl : l.length ≤ 100000) (k : κ (nI l.length) M) : AM rLenT [rSt l] M κ := am_lenT (by rw [sL_len]; exact hl) (by rw [sL_len]; exact k)
theorem ix_T (h : EvX Γ te (rSt l)) : IX Γ (iStr te) l rC := ix_S h
end
section
variable {W : WX} {Γ : Ctx} {M : List Re} {tl : TE} {K : PySem.W.Frag} {j : Nat} {β α : Type} {l : List β} {ρ : β → Rp} {tu : TS} {κ : Kn} {B : Ba} {G1 H1 : Hp} {J : It} {σ : L2.St} {D : Ends}
end
end Mu

namespace Mu
open PySem PySem.Spec PyProof.Rows L2 He Evl
section
variable {Γ : Ctx} {te : TE} {t1 : TT} {j j1 : Nat} {vs vs1 : List Nat} {β γ : Type} {ti ti1 : TI} {l : List β} {ρ : β → Rp} {l1 : β → List γ} {ρ1 : β → γ → Rp} {f1 : β → γ → Bool} {rr : β → γ → Rp}
end
end Mu

namespace Mu
open PySem PySem.Spec PyProof.Rows L2 He Evl
section
variable {prog : Program} {w : World} {A : Around} {E : Value → Shared → Prop} {s : Shared} {K : PySem.W.Frag} {x C f : Addr} {ox : Obj} {od : Option Obj} {name : Str} {b : Value}
end
section
variable {X : Cx} {CX : CXT} {k : Nat} {f C : Addr} {fd : FuncData} {ps : List Str} {sp : Sp} {E : XK}
end
section
variable {K : PySem.W.Frag} {Γ : Ctx} {te : TE} {s : Str}
theorem x_isIntS (h : EvX Γ te (rV (.str s))) : EvX Γ (tCB (rIsi K) (tCons te (tCons (tC (.ty "int")) tNil))) (rB false) := fun σ G en => Ev.d (ev_isi (h σ G en) (.ty _) fun v H hv => ⟨_, by obtain rfl : v = V.str s := hv; exact .base (.str s), kit_ty (by decide +kernel)⟩)
theorem x_isStrS (h : EvX Γ te (rV (.str s))) : EvX Γ (tCB (rIsi K) (tCons te (tCons (tC (.ty "str")) tNil))) (rB true) := fun σ G en => Ev.d (ev_isi (h σ G en) (.ty _) fun v H hv => ⟨_, by obtain rfl : v = V.str s := hv; exact .base (.str s), kit_same⟩)
end
end Mu

namespace Mu
open PySem PySem.Spec PyProof.Rows L2 He Evl
abbrev Cl := Value × (Addr → Value → Option Addr → TS)
section
variable {X : Cx} {n : Str} {i : Nat} {body : List Stmt} {h0 : ExceptHandler} {hds : List ExceptHandler} {l : List Cl} {pos : Pos} {tb : WX → TS} {Wo : WX}
end
section
variable {W : WX} {Γ : Ctx} {M : List Re} {K : PySem.W.Frag} {i : Nat} {tb : WX → TS} {κ : Kn}
end
end Mu

namespace Mu
open PySem PySem.Spec PyProof.Rows L2 He Evl
def rListK : List V → Hp → VK → Prop := fun xs H Q => ∃ p kvs, xs = [.ref p] ∧ Rd H p (.dK kvs) ∧ ∀ q, H q = none → Q (.ref q) (upd H q (.lst (kvs.map fun kv => kV kv.1)))
theorem ra_ltr {G : Hp} : ∀ l : List Nat, RA G (l.map fun c => V.str (ltr c)) (l.map rC)
  | [] => .nil
  | _ :: l => .cons rfl (ra_ltr l)
section
variable {W : WX} {Γ : Ctx} {M : List Re} {ta tb : TE} {K : PySem.W.Frag} {κ : KV} {kvs : List (Key × Rp)} {z : Bool} {l : List Nat}
theorem am_listK (hk : kvs.map (·.1) = l.map fun c => (Sum.inr (ltr c) : Key)) (kk : κ (rL K (l.map rC)) M) : AM rListK [rD z kvs] M κ := fun B G H vs o ra Q q => by
  obtain ⟨x, rfl, hx⟩ := ra1 ra
  obtain ⟨d, ws, rfl, h2, h3⟩ := rD_get hx o.i
  refine ⟨d, ws, rfl, h2, fun p hp => ?_⟩
  have e : (ws.map fun kv => kV kv.1) = l.map fun c => V.str (ltr c) := by
    rw [show (ws.map fun kv => kV kv.1) = (ws.map (·.1)).map kV by rw [List.map_map]; rfl, h3.keys, hk, List.map_map]; rfl
  rw [e]
  have g := Gr.new (o := .lst (l.map fun c => V.str (ltr c))) o.i hp
  refine q _ _ _ (rL K (l.map rC)) M kk (o.gr g) g.g ⟨p, _, rfl, upd_same, ?_⟩
  exact ra_ltr _
end
theorem w_forRW {α : Type} {W : WX} {Γ : Ctx} {M : List Re} {ta : TE} {tu : TS} {κ : Kn} {j : Nat} (h : EW W Γ M ta (fun r M1 => ∃ (n : Nat) (P : Nat → α → Prop) (Γi : Nat → α → Ctx) (Mi : Nat → α → List Re) (a0 : α), r = nI n ∧ n ≤ 100000 ∧ P 0 a0 ∧ Sub Γ (Γi 0 a0) ∧ M1 = Mi 0 a0 ∧ (∀ i a, i < n → P i a → WP W ((Γi i a).set j (some (nI i))) (Mi i a) tu (kLoop (LI P Γi Mi (i + 1)) κ)) ∧ (∀ a, P n a → κ.nx (Γi n a) (Mi n a))) (κ.ex Γ)) : WP W Γ M (tFor (iRng1 (tCons ta tNil)) (gName j) tu) κ := fun B G H σ D o en d => by
  refine h B G H σ o en _ (fun v G1 H1 r M1 z o1 e1 hv => ?_) (fun cls fs dd G' H' M' k o' e' xd => d.ex σ G' H' Γ M' cls dd fs o' (en.mono e') xd k)
  obtain ⟨n, P, Γi, Mi, a0, rfl, hn, p0, s0, m0, hs, hd⟩ := z
  obtain rfl : v = V.int (n : Int) := hv
  refine (show tFor (iRng1 (tCons (tC (.int (n : Int))) tNil)) (gName j) tu D σ H1 from Mu.s_forR (G := H1) n (Ex.refl H1) (ea_cons ev_c ea_nil) hn (fun i σ' H' => ∃ G Γ M, Ok B G H' M ∧ En σ' G Γ ∧ LI P Γi Mi i Γ M) (fun H2 e => ⟨G1, Γ, M1, o1.ex e, en.mono e1, a0, p0, s0, m0⟩) (fun i σ' H' hi ⟨G2, Γ2, M2, o2, en2, a, pa, sa, ma⟩ => ?_) (fun σ' H' ⟨G2, Γ2, M2, o2, en2, a, pa, sa, ma⟩ => ?_))
  · subst ma
    exact hs i a hi pa B G2 H' _ _ o2 ((en2.weak sa).set (r := nI i) rfl j) d.loop
  · subst ma
    exact d.nx _ G2 H' _ _ o2 (en2.weak sa) (hd a pa)
theorem EW.drop {W : WX} {Γ : Ctx} {M : List Re} {te : TE} {κ : KV} {ε : KX} (k : Nat) (h : EW W Γ M te (fun r M' => κ r (M'.eraseIdx k)) ε) : EW W Γ M te κ ε := fun B G H σ o en Q q x => h B G H σ o en Q (fun v G' H' r M' z o' e hv => q v G' H' r (M'.eraseIdx k) z o'.drop e hv) x
section
variable {Γ : Ctx} {ta tb : TE} {K : PySem.W.Frag}
end
end Mu

namespace Mu
open PySem PySem.Spec PyProof.Rows L2 He Evl
section
variable {X : Cx} {CX : CXT} {k : Nat} {f C : Addr} {fd : FuncData} {ps : List Str} {sp : Sp} {E : L2.St → XK} {a b e fe : Expr} {es : List Expr} {ta tb tf : TE} {t : TA} {pos : Pos}
end
section
variable {W : WX} {Γ : Ctx} {M : List Re} {te tb : TE} {ta : TA} {C : Addr} {sp : Sp} {κ : KV} {ε : KX}
end
end Mu

namespace Mu
open PySem PySem.Spec PyProof.Rows L2 He Evl
section
variable {W : WX} {Γ : Ctx} {M : List Re} {te : TE} {ti : TI} {K : PySem.W.Frag} {κ : KV} {ε : KX} {i0 j : Nat} {vs : List Nat} {β : Type} {l : List β} {ρ : β → Rp} {p : Addr}
theorem ra_valsE {G : Hp} : ∀ {ws vals : List V}, RA G ws (vals.map rV) → ws = vals
  | [], [], _ => rfl
  | w :: ws, v :: vals, .cons h t => by
    have h : w = v := h
    rw [h, ra_valsE t]
end
end Mu

namespace Mu
open PySem PySem.Spec PyProof.Rows L2 Evl
section
variable {X : Cx} {CX : CXT} {k : Nat} {f C : Addr} {fd : FuncData} {ps : List Str} {sp : Sp} {o i : Expr} {to ti : TE} {pos : Pos}
end
section
variable {W : WX} {Γ : Ctx} {M : List Re} {κ : Kn} {C p : Addr} {sp : Sp} {j : Nat} {tv ti : TE}
end
theorem ra_app {G : Hp} : ∀ {vs ws : List V} {rs ss : List Rp}, RA G vs rs → RA G ws ss → RA G (vs ++ ws) (rs ++ ss)
  | _, _, _, _, .nil, h => h
  | _, _, _, _, .cons a b, h => .cons a (ra_app b h)
section
variable {W : WX} {Γ : Ctx} {M : List Re} {κ : KV} {ε : KX} {sp : Sp} {ta : TA}
theorem e_callD {v : V} {E : XK} (h : EA W Γ M ta (fun rs M1 => CM sp (rs ++ [rV v]) M1 κ) ε) : EW W Γ M (tCall sp [v] E ta) κ ε := fun B G H σ o en Q q x =>
  h B G H σ o en _ (fun vs G1 H1 rs M1 k1 o1 e1 ra => k1 E B G1 H1 _ o1 (ra_app ra (.cons rfl .nil)) Q (q.up e1)) x
theorem e_callD0 {E : XK} (h : EA W Γ M ta (fun rs M1 => CM sp (rs ++ [nI 0]) M1 κ) ε) : EW W Γ M (tCall sp [.int 0] E ta) κ ε := e_callD h
end
theorem tab_is {K : PySem.W.Frag} {C : Addr} {m : List Nat} : ∀ v G, (rTab K C m).p v G → ∃ a dx ws, v = .ref a ∧ G a = some (.ins C dx ws) := fun v G h => by
  obtain ⟨a, dx, t, c, rfl, h2, _⟩ := h
  exact ⟨a, dx, _, rfl, h2⟩
theorem x_niTn {K : PySem.W.Frag} {Γ : Ctx} {ta tb : TE} {n : Nat} {l : List Nat} (ha : EvX Γ ta (nI n)) (hb : EvX Γ tb (rTn K l)) : EvX Γ (tOp (rIn K true) ta tb) (rB (!decide (n ∈ l))) :=
  x_is (x_inTi (l := l.map fun k => ((k : Nat) : Int)) true ha (x_is hb (by unfold rTn; rw [List.map_map]; rfl))) (by
    show rB (!decide (((n : Nat) : Int) ∈ l.map fun k => ((k : Nat) : Int))) = _
    congr 2
    rw [decide_eq_decide, List.mem_map]
    exact ⟨fun ⟨a, h, e⟩ => by rw [← Int.ofNat_inj.mp e]; exact h, fun h => ⟨n, h, rfl⟩⟩)
section
variable {W : WX} {Γ : Ctx} {M : List Re} {κ : KV} {ε : KX} {ta tb : TE}
end
theorem at_sign {l : List Nat} {c i : Nat} : StrLaws.At (sL l) (ltr c) (sL l).length i ↔ l[i]? = some c := by
  have hy : TL.tl (ltr c) ≠ [] := by show [c] ≠ []; simp
  rw [TL.at_iff hy]
  show (((l.drop i).take 1 == [c]) = true) ↔ _
  rw [beq_iff_eq]
  cases h : l[i]? with
  | none =>
    have hl : l.length ≤ i := List.getElem?_eq_none_iff.mp h
    rw [List.drop_of_length_le hl]
    simp
  | some x =>
    obtain ⟨hi, hx⟩ := List.getElem?_eq_some_iff.mp h
    rw [List.drop_eq_getElem_cons hi, hx]
    simp
theorem find_at {l : List Nat} {c i : Nat} (hi : l[i]? = some c) (hf : ∀ k, k < i → l[k]? ≠ some c) : Txt.find (sL l) (ltr c) = (i : Int) := by
  rcases find_whole (sL l) (ltr c) with ⟨_, h⟩ | ⟨k, h1, h2, h3⟩
  · exact absurd (at_sign.mpr hi) (h i)
  · rw [h1]
    have z := at_sign.mp h2
    rcases Nat.lt_trichotomy k i with q | q | q
    · exact absurd z (hf k q)
    · rw [q]
    · exact absurd (at_sign.mpr hi) (h3 i q)
end Mu

namespace Mu
open PySem PySem.Spec PyProof.Rows L2 Evl
section
variable {X : Cx} {CX : CXT} {k : Nat} {f C : Addr} {fd : FuncData} {ps : List Str} {sp : Sp} {E : XK}
end
section
variable {W : WX} {Γ : Ctx} {M : List Re} {κ : KV} {ε : KX} {sp : Sp} {C : Addr} {r0 : Rp}
end
end Mu

namespace Mu
open PySem PySem.Spec PyProof.Rows L2 He Evl
section
variable {B : Ba} {G H : Hp} {M : List Re} {W : WX} {Γ : Ctx} {t tu : TS} {κ : Kn} {κv : KV} {kvs : List (Key × Rp)} {ws : List (Key × V)} {p : Addr} {i j k : Nat} {od : Obj} {r : Rp} {α : Type}
end
end Mu

namespace Mu
open PySem PySem.Spec PyProof.Rows L2 He Evl
section
variable {W : WX} {Γ : Ctx} {M : List Re} {κ : KV} {ε : KX} {K : PySem.W.Frag} {rs : List Rp} {r : Rp} {ta tb td tx : TE} {p : Addr} {kvs : List (Key × Rp)}
theorem ra_last {G : Hp} : ∀ {vs : List V} {rs : List Rp} {r : Rp}, RA G vs rs → rs.getLast? = some r → ∃ v, vs.getLast? = some v ∧ r.p v G
  | _, _, r, .nil, h => by simp at h
  | _, _, r, .cons (a := v) (b := q) a .nil, h => ⟨v, rfl, by
    have : q = r := by simpa using h
    rw [← this]; exact a⟩
  | _, _, r, .cons a (.cons b c), h => by
    obtain ⟨v, h1, h2⟩ := ra_last (.cons b c) (by rw [List.getLast?_cons_cons] at h; exact h)
    exact ⟨v, by rw [List.getLast?_cons_cons]; exact h1, h2⟩
end
end Mu

namespace Mu
open PySem PySem.Spec PyProof.Rows L2 He Evl
def CValI (K : PySem.W.Frag) (C : Addr) (f : Str) (i : Int) : Prop := ∃ u, ClX.CVal K C (.type "type") f (.int i) u
theorem e_cval {W : WX} {Γ : Ctx} {M : List Re} {κ : KV} {ε : KX} {K : PySem.W.Frag} {C : Addr} {f : Str} {i : Int} (r : ClX.CRead K C (.type "type")) (c : CValI K C f i) (k : κ (rI i) M) : EW W Γ M (ClX.tCVal K (tC (.ref C)) f) κ ε := fun B G H σ o en Q q x => by
  obtain ⟨u, c⟩ := c
  exact ⟨C, _, _, u, rfl, r, c, q _ G H _ M k o (Ex.refl _) rfl⟩
def tCM (dv : List V) (sp : Sp) (E : L2.St → XK) (t : TA) : TE := fun σ H Q => t σ H fun vs H2 => sp (dv ++ vs) H2 Q (E σ)
section
variable {X : Cx} {CX : CXT} {k : Nat} {C g f : Addr} {fd : FuncData} {ps : List Str} {sp : Sp} {E : L2.St → XK} {x m : Str} {e : Expr} {es : List Expr} {p pos apos : Pos} {t : TA} {pl : Sem Bool} {i : Nat}
def tMakeV (i : Nat) (C : Addr) (t : TE) : TE := fun σ H Q => σ[i]? = some (some (.ref C)) ∧ t σ H Q
end
section
variable {W : WX} {Γ : Ctx} {M : List Re} {κ : KV} {ε : KX} {i : Nat} {C : Addr} {t : TE}
theorem e_makeV (hi : Γ[i]? = some (some (rV (.ref C)))) (h : EW W Γ M t κ ε) : EW W Γ M (tMakeV i C t) κ ε := fun B G H σ o en Q q x => by
  obtain ⟨u, hu1, hu2⟩ := en.get hi
  obtain rfl : u = V.ref C := hu2
  exact ⟨hu1, h B G H σ o en Q q x⟩
end
section
variable {W : WX} {Γ : Ctx} {M : List Re} {κ : KV} {ε : KX} {C : Addr} {sp : Sp} {ta : TA}
theorem e_cm {E : L2.St → XK} (h : EA W Γ M ta (fun rs M1 => CM sp (rV (.ref C) :: rs) M1 κ) ε) : EW W Γ M (tCM [.ref C] sp E ta) κ ε := fun B G H σ o en Q q x =>
  h B G H σ o en _ (fun vs G1 H1 rs M1 h1 o1 e1 ra => h1 (E σ) B G1 H1 (.ref C :: vs) o1 (.cons rfl ra) Q (q.up e1)) x
theorem e_cmS (h : EA W Γ M ta (fun rs M1 => XM sp (rV (.ref C) :: rs) M1 κ ε) ε) : EW W Γ M (tCM [.ref C] sp (WE W) ta) κ ε := fun B G H σ o en Q q x =>
  h B G H σ o en _ (fun vs G1 H1 rs M1 h1 o1 e1 ra => h1 B G1 H1 (.ref C :: vs) W σ o1 (.cons rfl ra) Q (q.up e1) (x.up e1)) x
theorem e_sm {E : L2.St → XK} (h : EA W Γ M ta (fun rs M1 => CM sp rs M1 κ) ε) : EW W Γ M (tCM [] sp E ta) κ ε := fun B G H σ o en Q q x =>
  h B G H σ o en _ (fun vs G1 H1 rs M1 h1 o1 e1 ra => h1 (E σ) B G1 H1 vs o1 ra Q (q.up e1)) x
theorem e_smS (h : EA W Γ M ta (fun rs M1 => XM sp rs M1 κ ε) ε) : EW W Γ M (tCM [] sp (WE W) ta) κ ε := fun B G H σ o en Q q x =>
  h B G H σ o en _ (fun vs G1 H1 rs M1 h1 o1 e1 ra => h1 B G1 H1 vs W σ o1 ra Q (q.up e1) (x.up e1)) x
end
section
variable {CX : CXT} {P : Program} {w : World} {K : PySem.W.Frag} {mg : Str → Option Value} {base : Heap} {k : Nat} {f : Addr}
end
section
variable {W : WX} {Γ : Ctx} {M : List Re} {te : TE} {t : TT} {K : PySem.W.Frag} {C : Addr} {m : List Nat} {ti : TI} {α β : Type} {l : List β} {j1 j2 : Nat} {tu : TS} {κ : Kn}
end
end Mu

namespace Mu
open PySem PySem.Spec PyProof.Rows L2 He Evl
section
variable {W : WX} {Γ : Ctx} {M : List Re} {κ : KV} {ε : KX} {K : PySem.W.Frag} {te ta tb : TE}
theorem x_mulN {m n : Nat} (ha : EvX Γ ta (nI m)) (hb : EvX Γ tb (nI n)) (h : m < 2 ^ 64 ∨ n < 2 ^ 64) : EvX Γ (tOp (L2.rI CMul fun i j => .int (i * j)) ta tb) (nI (m * n)) := x_is (x_I ha hb (by
  rcases h with h | h
  · exact .inl ⟨by omega, by omega⟩
  · exact .inr ⟨by omega, by omega⟩)) (by show rI _ = rI _; congr 1)
theorem x_divN {m n : Nat} (ha : EvX Γ ta (nI m)) (hb : EvX Γ tb (nI n)) (h : 0 < n) (h2 : n < 1073741824) : EvX Γ (tOp (L2.rI CDiv fun i j => .int (i / j)) ta tb) (nI (m / n)) := x_is (x_I ha hb ⟨by omega, by omega⟩) (by show rI _ = rI _; congr 1)
end
end Mu

namespace Mu
open PySem PySem.Spec PyProof.Rows L2 He Evl StX
section
variable {CX : CXT} {P : Program} {w : World} {K : PySem.W.Frag} {mg : Str → Option Value} {base : Heap} {k : Nat} {f : Addr} {sp : Sp} {fd : FuncData}
end
section
variable {X : Cx} {CX : CXT} {k : Nat} {f : Addr} {sp : Sp} {E : L2.St → XK} {x kn : Str} {p pos kp : Pos} {e ek : Expr} {es : List Expr} {t : TA} {te : TE}
end
section
variable {W : WX} {Γ : Ctx} {M : List Re} {κ : KV} {ε : KX} {K : PySem.W.Frag} {sp : Sp} {ta : TA} {te : TE}
end
end Mu

namespace Mu
open PySem PySem.Spec PyProof.Rows L2 He Evl StX
section
variable {M : List Re} {cs : Addr → Bool} {p : Addr} {od : Obj} {ws : List (Key × V)} {kvs : List (Key × Rp)} {k : Nat}
end
section
variable {W : WX} {Γ : Ctx} {M : List Re} {κ : KV} {ε : KX} {K : PySem.W.Frag} {rs : List Rp} {r : Rp} {ta tb td tx : TE} {p : Addr} {kvs : List (Key × Rp)} {z : Bool}
end
section
variable {α : Type} {ρ : α → Rp} {cl : List (Nat × α)} {n m : Nat} {a : α}
end
section
variable {W : WX} {Γ : Ctx} {M : List Re} {κ : KV} {ε : KX} {ta : TA} {C : Addr} {R : List V → Hp → List Re → KV → KX → Prop}
end
section
variable {M : List Re} {κ : KV} {K : PySem.W.Frag} {p p2 : Addr} {kvs : List (Key × Rp)}
end
section
variable {B : Ba} {G H : Hp} {M : List Re} {R R' : Re} {k : Nat} {W : WX} {Γ : Ctx} {t : TS} {κ : Kn}
theorem Ok.swap (o : Ok B G H M) (hk : M[k]? = some R) (hf : R'.ft = R.ft) (ho : R'.own = R.own) (m : R.p G H → R'.p G H) : Ok B G H (M.set k R') :=
  o.chg hk hf ho (Ex.refl _) (fun _ _ z _ => z) o.i (fun _ _ _ _ y => y) (m (o.m _ (List.mem_of_getElem? hk)))
end
section
variable {W : WX} {Γ : Ctx} {M : List Re} {κ : KV} {ε : KX} {K : PySem.W.Frag} {tl te : TE} {t : TT} {j : Nat} {vs : List Nat} {α : Type}
end
section
variable {Γ : Ctx} {M : List Re} {W : WX} {κ : Kn} {K : PySem.W.Frag} {te ta tb : TE} {α : Type} [DecidableEq α] {ρ : α → Rp} {δ : α → PyData} {k j1 j2 j3 j4 j5 : Nat} {p : α} {l : List α} {r1 r2 r3 r4 r5 : Rp}
end
section
variable {W : WX} {Γ : Ctx} {M : List Re} {te : TE} {i : Nat} {p : Addr}
end
end Mu

namespace Mu
open PySem PySem.Spec PyProof.Rows L2 He Evl
section
variable {α : Type}
def valT (kvs : List (List Key × α)) (k : List Key) : Option α := (kvs.find? fun kv => decide (kv.1 = k)).map (·.2)
def putT (kvs : List (List Key × α)) (k : List Key) (v : α) : List (List Key × α) := if (kvs.any fun kv => decide (kv.1 = k)) = true then kvs.map (fun kv => if kv.1 = k then (kv.1, v) else kv) else kvs ++ [(k, v)]
end
abbrev DtR (G : Hp) : List (List Key × V) → List (List Key × Rp) → Prop := Paired fun a b => a.1 = b.1 ∧ b.2.p a.2 G
section
variable {G G' : Hp} {ws : List (List Key × V)} {kvs : List (List Key × Rp)} {k : List Key} {v : V} {r : Rp}
theorem DtR.mono (e : Ex G G') (h : DtR G ws kvs) : DtR G' ws kvs := Paired.mono (fun _ b z => ⟨z.1, b.2.mono e z.2⟩) h
theorem DtR.len (h : DtR G ws kvs) : ws.length = kvs.length := Paired.length h
theorem DtR.keys (h : DtR G ws kvs) : ws.map (·.1) = kvs.map (·.1) := by
  induction h with
  | nil => rfl
  | cons a t ih => rw [List.map_cons, List.map_cons, a.1, ih]
theorem DtR.val (h : DtR G ws kvs) (k : List Key) : match valT kvs k with
    | some r => ∃ v, valV ws k = some v ∧ r.p v G
    | none => valV ws k = none := by
  induction h with
  | nil => rfl
  | @cons a b as bs ha t ih =>
    unfold valT valV at ih ⊢
    rw [List.find?_cons, List.find?_cons, ha.1]
    by_cases c : b.1 = k
    · rw [decide_eq_true c]
      exact ⟨a.2, rfl, ha.2⟩
    · rw [decide_eq_false c]
      exact ih
theorem DtR.any (h : DtR G ws kvs) (k : List Key) : (ws.any fun kv => decide (kv.1 = k)) = kvs.any fun kv => decide (kv.1 = k) := by
  induction h with
  | nil => rfl
  | cons a t ih => rw [List.any_cons, List.any_cons, a.1, ih]
theorem DtR.repl (h : DtR G ws kvs) (hr : r.p v G) : DtR G (ws.map fun kv => if kv.1 = k then (kv.1, v) else kv) (kvs.map fun kv => if kv.1 = k then (kv.1, r) else kv) := by
  induction h with
  | nil => exact .nil
  | @cons a b as bs ha t ih =>
    refine .cons ?_ ih
    dsimp only
    rw [ha.1]
    by_cases c : b.1 = k
    · rw [if_pos c, if_pos c]; exact ⟨rfl, hr⟩
    · rw [if_neg c, if_neg c]; exact ha
theorem DtR.snoc (h : DtR G ws kvs) (hr : r.p v G) : DtR G (ws ++ [(k, v)]) (kvs ++ [(k, r)]) := by
  induction h with
  | nil => exact .cons ⟨rfl, hr⟩ .nil
  | cons a t ih => exact .cons a ih
theorem DtR.put (h : DtR G ws kvs) (hr : r.p v G) : DtR G (putK ws k v) (putT kvs k r) := by
  unfold putK putT
  rw [h.any k]
  split
  · exact h.repl hr
  · exact h.snoc hr
theorem DtR.isSome (h : DtR G ws kvs) (k : List Key) : (valV ws k).isSome = (valT kvs k).isSome := by
  have hh := h.val k
  cases e : valT kvs k with
  | none => rw [e] at hh; rw [hh]; rfl
  | some r => rw [e] at hh; obtain ⟨v, h4, _⟩ := hh; rw [h4]; rfl
end
def rK (k : List Key) : Rp := ⟨fun v G => ∃ a, v = .ref a ∧ G a = some (.tup (k.map kV)), fun e ⟨a, h1, h2⟩ => ⟨a, h1, e _ _ h2⟩⟩
section
variable {W : WX} {Γ : Ctx} {M : List Re} {te ta tb tv td : TE} {K : PySem.W.Frag} {n i j idx : Nat} {r : Rp} {κ : KV} {ε : KX} {kvs : List (List Key × Rp)} {z : Bool} {k : List Key} {p : Addr}
end
end Mu

namespace Mu
open PySem PySem.Spec PyProof.Rows L2 He Evl
section
variable {CX : CXT} {P : Program} {w : World} {K : PySem.W.Frag} {mg : Str → Option Value} {base : Heap} {k : Nat} {f : Addr}
end
section
variable {X : Cx} {CX : CXT} {k : Nat} {f : Addr} {fd : FuncData} {ps : List Str} {sp : Sp} {dvs : List V} {ds : List Value} {E : XK} {x : Str} {p pos : Pos} {e : Expr} {es : List Expr} {t : TA}
end
section
variable {P : Program} {w : World} {K : PySem.W.Frag} {mg mb : Str → Option Value} {CX : CXT} {k : Nat} {fa a : Addr} {fd : FuncData} {x : Str} {sp : Sp} {s₁ : Shared} {vs : List Value} {ns : List Int}
end
section
variable {α : Type} {P : α → Prop} {enc : α → List Nat}
end
section
variable {W : WX} {Γ : Ctx} {M : List Re} {κ : KV} {ε : KX} {K : PySem.W.Frag} {ll : List (List Nat)} {tk tv : TE} {r : Rp} {k : Key}
end
end Mu

namespace Mu
open PySem PySem.Spec PyProof.Rows L2 He Evl
section
variable {X : Cx} {CX : CXT} {k n : Nat} {f C : Addr} {fd : FuncData} {ps ks : List Str} {sp : Sp} {x : Str} {p pos : Pos} {e : Expr} {es : List Expr} {kws : List Keyword} {t tk : TA} {g : List Value → List Value → List Value} {gV : List V → List V → List V}
end
section
variable {W : WX} {Γ : Ctx} {M : List Re} {κ : KV} {ε : KX} {ta tk : TA} {C : Addr} {n m : Nat} {R : List V → Hp → List Re → KV → KX → Prop}
end
section
variable {B : Ba} {G H : Hp} {M : List Re} {W : WX} {Γ : Ctx} {t : TS} {κ : Kn} {K : PySem.W.Frag} {own : Bool} {p e C : Addr} {fs : FL} {rs : List Rp} {kvs : List (List Key × Rp)} {f : Str}
end
section
variable {W : WX} {Γ : Ctx} {M : List Re} {κ : KV} {ε : KX} {K : PySem.W.Frag} {ti : TI} {tk tv td te : TE} {j : Nat} {vs : List Nat} {β α : Type} {ρ : β → Rp} {l : List β} {tu : TS}
end
section
variable {W : WX} {Γ : Ctx} {M : List Re} {κ : KV} {ε : KX} {K : PySem.W.Frag} {t : TS} {i m n : Nat} {r r' : Rp}
end
end Mu

namespace Mu
open PySem PySem.Spec PyProof.Rows L2 He Evl
section
variable {W : WX} {Γ : Ctx} {M : List Re} {κ : KV} {ε : KX} {K : PySem.W.Frag} {td te ta tx : TE} {t : TT} {a b a' b' : Re} {r : Rp} {k : List Key} {kvs : List (List Key × Rp)} {z : Bool}
theorem EXT.ofW {κ : Bool → List Re → Prop} (h : ∀ W, ET W Γ M t κ (fun _ _ _ => False)) : EXT Γ M t κ := fun B G H σ o en Q q => h (fun _ _ _ _ => True) B G H σ o en Q q (fun _ _ _ _ _ _ z => z.elim)
end
section
variable {B : Ba} {G H : Hp} {M M1 : List Re} {W : WX} {Γ : Ctx} {t : TS} {te : TE} {κ : Kn} {K : PySem.W.Frag} {own : Bool} {p d e C : Addr} {fs : FL} {rs : List Rp} {kvs : List (List Key × Rp)} {f : Str} {Q : VK}
end
end Mu

namespace Mu
open PySem PySem.Spec PyProof.Rows L2 He Evl
section
variable {X : Cx} {o i e f : Expr} {pos apos cpos : Pos} {td ty tx : TE} {K : PySem.W.Frag}
end
section
variable {W : WX} {Γ : Ctx} {M : List Re} {te ta tb tv td tx : TE} {K : PySem.W.Frag} {r : Rp} {κ : KV} {ε : KX} {kvs : List (List Key × Rp)} {z : Bool} {m : List Nat}
end
section
variable {prog : Program} {w : World} {A : Around} {E : Value → Shared → Prop} {s : Shared}
end
section
variable {W : WX} {Γ : Ctx} {M : List Re} {κ : KV} {ε : KX} {tk tv : TE} {r : Rp} {k : List Key}
end
section
variable {W : WX} {Γ : Ctx} {M : List Re} {κ : Kn}
theorem w_cnt (h : κ.ct Γ M) : WP W Γ M tCont κ := fun B G H σ D o en d => d.ct σ G H Γ M o en h
end
section
variable {B : Ba} {G H : Hp} {M M1 : List Re} {W : WX} {Γ : Ctx} {te : TE} {κ : KV} {ε : KX} {Q : VK}
end
end Mu

namespace Mu
open PySem PySem.Spec PyProof.Rows L2 He Evl
theorem fold_rep {l : List Nat} : ∀ (k : Nat) (acc : Array Nat), (List.replicate k l.toArray).foldl (· ++ ·) acc = acc ++ ((List.replicate k l).flatten).toArray
  | 0, acc => by simp
  | k + 1, acc => by
    rw [List.replicate_succ, List.foldl_cons, fold_rep k, List.replicate_succ, List.flatten_cons]
    simp
theorem mul_sL {l : List Nat} {k : Nat} : Txt.mul (sL l) (k : Int) = sL ((List.replicate k l).flatten) := by
  unfold Txt.mul
  by_cases h : (k : Int) < 1
  · rw [if_pos h]
    obtain rfl : k = 0 := by omega
    rfl
  · rw [if_neg h]
    split
    · rename_i hc
      rw [Bool.or_eq_true, beq_iff_eq, beq_iff_eq, sL_len] at hc
      rcases hc with z | z
      · obtain rfl : k = 1 := by omega
        simp
      · obtain rfl : l = [] := List.length_eq_zero_iff.mp z
        congr 1
        induction k with
        | zero => rfl
        | succ k ih =>
          by_cases y : k = 0
          · subst y; rfl
          · rw [List.replicate_succ, List.flatten_cons, ← ih (by omega)]
            rfl
    · show (⟨(List.replicate ((k : Int).toNat) l.toArray).foldl (· ++ ·) #[]⟩ : Str) = ⟨((List.replicate k l).flatten).toArray⟩
      rw [fold_rep, Int.toNat_natCast]
      simp
section
variable {W : WX} {Γ : Ctx} {M : List Re} {κ : KV} {ε : KX} {K : PySem.W.Frag} {td te ta tb : TE} {l : List Nat} {k : Nat}
end
end Mu

namespace Mu
open PySem PySem.Spec PyProof.Rows L2 He Evl
def rJoin (K : PySem.W.Frag) : V → List V → Hp → VK → Prop := fun x xs H Q => ∃ a p, ∃ ys : List Str, x = .str a ∧ xs = [.ref p] ∧ (SqL K H p (ys.map V.str) ∨ SqT K H p (ys.map V.str)) ∧ (ys.map (·.length)).sum + ys.length * a.length ≤ 16777216 ∧ Q (.str (Txt.join a ys)) H
theorem mt_joinK {X : Cx} (K : PySem.W.Frag) (hK : X.K = K := by rfl) : MtR X "str.join" (rJoin K) := hK ▸ mt_join
theorem flat_glue : ∀ (parts : List Str) (acc : Array Nat), parts.foldl (fun acc p => acc ++ (Str.ofString "").cps ++ p.cps) acc = acc ++ ((parts.map fun p => p.cps.toList).flatten).toArray
  | [], acc => by simp
  | p :: parts, acc => by
    rw [List.foldl_cons, flat_glue parts, List.map_cons, List.flatten_cons]
    have e : (Str.ofString "").cps = #[] := rfl
    rw [e]
    apply Array.ext'
    simp
theorem join_ltr (l : List Nat) : Txt.join (Str.ofString "") (l.map ltr) = sL l := by
  show (⟨((l.map ltr).drop 1).foldl (fun acc p => acc ++ (Str.ofString "").cps ++ p.cps) ((l.map ltr).headD Str.empty).cps⟩ : Str) = _
  rw [flat_glue]
  cases l with
  | nil => rfl
  | cons c l =>
    have h : ∀ l : List Nat, ((l.map ltr).map fun p => p.cps.toList).flatten = l := fun l => by
      induction l with
      | nil => rfl
      | cons a l ih => rw [List.map_cons, List.map_cons, List.flatten_cons, ih]; rfl
    rw [List.map_cons, List.drop_succ_cons, List.drop_zero, h l]
    show (⟨#[c] ++ l.toArray⟩ : Str) = ⟨(c :: l).toArray⟩
    congr 1
    apply Array.ext'
    simp
section
variable {W : WX} {Γ : Ctx} {M : List Re} {κ : KV} {ε : KX} {K : PySem.W.Frag} {td te ta tb tc : TE} {l : List Nat} {p : Addr} {rs rs2 : List Rp} {i : Nat}
theorem x_join {a : Str} {ys : List Str} (ha : EvX Γ ta (rV (.str a))) (hb : EvX Γ tb (rL K (ys.map rS))) (hz : (ys.map (·.length)).sum + ys.length * a.length ≤ 16777216) : EvX Γ (tM1 (rJoin K) ta tb) (rS (Txt.join a ys)) := fun σ G en H e Q q => ha σ G en H e _ fun v G1 H1 g1 hv => by
  obtain rfl : v = V.str a := hv
  refine ⟨⟨a, rfl⟩, hb σ G1 (en.mono g1.g) H1 g1.i _ fun v2 G2 H2 g2 hv2 => ?_⟩
  obtain ⟨p, ws, rfl, h1, h2⟩ := hv2
  have hw : ∀ {ws : List V} {ys : List Str}, RA G2 ws (ys.map rS) → ws = ys.map V.str := fun {ws ys} h => by
    induction ys generalizing ws with
    | nil => cases h; rfl
    | cons y ys ih =>
      cases h with
      | cons a b =>
        rename_i v vs
        obtain rfl : v = V.str y := a
        rw [ih b]; rfl
  obtain rfl := hw h2
  exact ⟨a, p, ys, rfl, rfl, .inl (sq_of (g2.i _ _ h1)), hz, q _ G2 H2 (g1.trans g2) rfl⟩
theorem x_joinL (ha : EvX Γ ta (rV (.str (Str.ofString "")))) (hb : EvX Γ tb (rL K (l.map rC))) (hz : l.length ≤ 100000) : EvX Γ (tM1 (rJoin K) ta tb) (rSt l) := by
  have hs : ((l.map ltr).map (·.length)).sum = l.length := by
    clear hb hz
    induction l with
    | nil => rfl
    | cons a l ih => rw [List.map_cons, List.map_cons, List.sum_cons, ih, List.length_cons]; show 1 + _ = _; omega
  have := x_join (K := K) (ys := l.map ltr) ha (x_is hb (by rw [List.map_map]; rfl)) (by rw [hs]; show l.length + _ * 0 ≤ _; omega)
  rwa [join_ltr] at this
end
end Mu

namespace Mu
open PySem PySem.Spec PyProof.Rows L2 He Evl
theorem ra_strs {G : Hp} : ∀ {ls : List (List Nat)} {vs : List V}, RA G vs (ls.map rSt) → vs = (ls.map sL).map V.str
  | [], _, h => by cases h; rfl
  | c :: l, _, h => by
    cases h with
    | cons a b =>
      rename_i v vs
      obtain rfl : v = V.str (sL c) := a
      rw [ra_strs b]; rfl
section
variable {W : WX} {Γ : Ctx} {M : List Re} {κ : KV} {ε : KX} {K : PySem.W.Frag} {td te ta tb tc t1 t2 : TE} {l : List Nat} {p : Addr} {rs rs2 : List Rp} {i a b : Nat}
theorem inV_strs {a : List Nat} {ls : List (List Nat)} : inV (V.str (sL a)) ((ls.map sL).map V.str) = decide (a ∈ ls) := by
  unfold inV
  rw [List.any_map, List.any_map, Bool.eq_iff_iff, List.any_eq_true, decide_eq_true_iff]
  constructor
  · rintro ⟨x, hx, h⟩
    have h : (sL x == sL a) = true := h
    rw [← sL_inj.mp (eq_of_beq h)]; exact hx
  · intro h
    exact ⟨a, h, show (sL a == sL a) = true from beq_self_eq_true _⟩
theorem x_inLT {a : List Nat} {ls : List (List Nat)} (neg : Bool) (ha : EvX Γ t1 (rSt a)) (hb : EvX Γ t2 (rL K (ls.map rSt))) : EvX Γ (tOp (rIn K neg) t1 t2) (rB (neg ^^ decide (a ∈ ls))) := fun σ G en =>
  Ev.d (ev_op2 (ha σ G en) (hb σ G en) fun x y H hx hy Q q => by
    obtain rfl : x = V.str (sL a) := hx
    obtain ⟨p, vs, rfl, h1, h2⟩ := hy
    obtain rfl := ra_strs h2
    refine ⟨p, _, rfl, .inl (sq_of h1), rfl, ?_, ?_⟩
    · rw [List.all_eq_true]
      intro z hz
      obtain ⟨a, _, rfl⟩ := List.mem_map.mp hz
      rfl
    · have e := inV_strs (a := a) (ls := ls)
      cases neg
      · show Q (.bl (inV _ _)) H
        rw [e]
        simpa using q
      · show Q (.bl (!inV _ _)) H
        rw [e]
        simpa using q)
end
end Mu

namespace Mu
open PySem PySem.Spec PyProof.Rows L2 He Evl
theorem Cm.ex {G0 H0 H' H'' : Hp} {Dl : Addr} {rs : List Rp} (p : Cm G0 H0 Dl rs H') (e : Ex H' H'') : Cm G0 H0 Dl rs H'' := by
  obtain ⟨p1, G', ws, g, hG, hD, ra⟩ := p
  exact ⟨p1, G', ws, g.more e, hG, e _ _ hD, ra⟩
section
variable {W : WX} {Γ : Ctx} {M : List Re} {κ : KV} {ε : KX} {K : PySem.W.Frag} {td te ta tb tc ts t1 t2 : TE} {tt : TT} {l m : List Nat} {p : Addr} {rs rs2 : List Rp} {i a b j1 j2 : Nat} {vs : List Nat}
theorem e_popL {r : Rp} (k : Nat) (hi : Γ[i]? = some (some (rV (.ref p)))) (hk : M[k]? = some (lstR p (rs ++ [r]))) (kk : κ r (M.set k (lstR p rs))) : EW W Γ M (tBM0 K "list" rPop (tVar i)) κ ε := fun B G H σ o en Q q x => by
  obtain ⟨v, hv1, hv2⟩ := en.get hi
  obtain rfl : v = V.ref p := hv2
  have hm := List.mem_of_getElem? hk
  obtain ⟨ws, hp, ra⟩ := o.m _ hm
  have gp : G p = none := o.z p (mem_feet hm (List.mem_singleton.mpr rfl))
  obtain ⟨w, hw1, hw2⟩ := ra_last (r := r) ra (by simp)
  have ha : RA G ws.dropLast rs := by
    have key : ∀ {rs : List Rp} {ws : List V}, RA G ws (rs ++ [r]) → RA G ws.dropLast rs := fun {rs} => by
      induction rs with
      | nil =>
        intro ws h
        cases h with
        | cons a b => cases b; exact .nil
      | cons x rs ih =>
        intro ws h
        cases h with
        | cons a b =>
          rename_i v vs
          have b : RA G vs (rs ++ [r]) := b
          have hne : vs ≠ [] := fun z => by rw [z] at b; have := RA.len b; simp at this
          rw [List.dropLast_cons_of_ne_nil hne]
          exact .cons a (ih b)
    exact key ra
  refine ⟨.ref p, hv1, Or.inl ⟨rfl, ws, sq_of hp⟩, p, ws, w, rfl, rfl, hp, ?_, ?_⟩
  · rw [← List.getLast?_eq_getElem?]; exact hw1
  · refine q w G _ r _ kk (o.chg (R' := lstR p rs) hk rfl rfl (Ex.refl _) (fun a u z n => ?_) (Ex.mut o.i gp) (fun _ _ _ _ y => y) ⟨ws.dropLast, upd_same, ha⟩) (Ex.refl _) hw2
    rw [upd_ne fun q => n (List.mem_singleton.mpr q)]
    exact z
end
end Mu

namespace Mu
open PySem PySem.Spec PyProof.Rows L2 He Evl
abbrev set0 (w : World) : Obj := { cls := .type "set", dict := none, data := .set #[] 0 (.fresh 0 0 (!w.params.followText "set-order")) }
section
variable {P : Program} {w : World} {A : Around} {E : Value → Shared → Prop} {s : Shared}
end
def ascL (l : List Nat) : List Nat := (List.range (l.foldl max 0 + 1)).filter fun w => decide (w ∈ l)
theorem le_foldl_max : ∀ (l : List Nat) (a : Nat), a ≤ l.foldl max a ∧ ∀ x ∈ l, x ≤ l.foldl max a
  | [], a => ⟨Nat.le_refl _, fun x h => nomatch h⟩
  | b :: l, a => by
    obtain ⟨h1, h2⟩ := le_foldl_max l (max a b)
    rw [List.foldl_cons]
    refine ⟨by omega, fun x hx => ?_⟩
    rcases List.mem_cons.mp hx with z | z
    · omega
    · exact h2 x z
theorem mem_asc {l : List Nat} {w : Nat} : w ∈ ascL l ↔ w ∈ l := by
  unfold ascL
  rw [List.mem_filter, List.mem_range, decide_eq_true_iff]
  exact ⟨fun h => h.2, fun h => ⟨by have := (le_foldl_max l 0).2 w h; omega, h⟩⟩
theorem asc_lt {l : List Nat} : (ascL l).Pairwise (· < ·) := List.Pairwise.filter _ List.pairwise_lt_range
section
variable {Γ : Ctx} {te : TE} {K : PySem.W.Frag} {w : World} {l : List Nat}
end
end Mu

namespace Mu
open PySem PySem.Spec PyProof.Rows L2 He Evl
section
variable {B : Ba} {G H : Hp} {M : List Re} {R : Re}
end
end Mu

namespace Mu
open PySem PySem.Spec PyProof.Rows L2 He Evl
end Mu

namespace Mu
open PySem PySem.Spec PyProof.Rows L2 He Evl
section
variable {W : WX} {Γ Γ' : Ctx} {M : List Re} {ta tb : TE} {j : Nat} {β α : Type} {ti : TI} {l : List β} {ρ : β → Rp} {tu : TS} {κ : Kn}
end
end Mu

namespace Mu
open PySem PySem.Spec PyProof.Rows L2 He Evl
section
variable {W : WX} {Γ : Ctx} {M : List Re} {κ : KV} {ε : KX} {ta : TA} {C : Addr} {n : Nat} {R : List V → Hp → List Re → KV → KX → Prop} {ds : List V}
end
section
variable {W : WX} {Γ : Ctx} {M : List Re} {κ : KV} {ε : KX} {te : TE} {K : PySem.W.Frag} {p : Addr} {rs0 : List Rp} {i : Nat}
end
end Mu

namespace Mu
open PySem PySem.Spec PyProof.Rows L2 He Evl
end Mu

namespace Mu
open PySem PySem.Spec PyProof.Rows L2 He Evl
end Mu

namespace Mu
open PySem PySem.Spec PyProof.Rows L2 He Evl
end Mu

namespace Mu
open PySem PySem.Spec PyProof.Rows L2 He Evl
def setsC (Γ : Ctx) (ups : List (Nat × Rp)) : Ctx := ups.foldl (fun Γ u => Γ.set u.1 (some u.2)) Γ
def setsS (σ : L2.St) : List Nat → List V → L2.St
  | j :: js, x :: xs => setsS (σ.set j (some x)) js xs
  | _, _ => σ
theorem En.sets {G : Hp} : ∀ {ups : List (Nat × Rp)} {xs : List V} {σ : L2.St} {Γ : Ctx}, En σ G Γ → RA G xs (ups.map (·.2)) → En (setsS σ (ups.map (·.1)) xs) G (setsC Γ ups)
  | [], xs, σ, Γ, en, ra => by cases ra; exact en
  | u :: us, xs, σ, Γ, en, ra => by
    cases ra with
    | cons hx ra => exact En.sets (ups := us) (en.set hx u.1) ra
def Tgt (g : TG) (r : Rp) (ups : List (Nat × Rp)) : Prop := ∀ (v : V) (G H : Hp) (σ : L2.St) (Q : L2.St → Hp → Prop), r.p v G → Ex G H → (∀ xs, RA G xs (ups.map (·.2)) → Q (setsS σ (ups.map (·.1)) xs) H) → g v σ H Q
section
variable {W : WX} {Γ : Ctx} {M : List Re} {te tl td : TE} {tu : TS} {κ : Kn} {K : PySem.W.Frag} {α β : Type} {j j1 j2 j3 j4 : Nat} {r r' r1 r2 r3 r4 : Rp} {g : TG} {ups : List (Nat × Rp)}
theorem Tgt.as (h : Tgt g r' ups) (hr : ∀ v G, r.p v G → r'.p v G) : Tgt g r ups := fun v G H σ Q hv e k => h v G H σ Q (hr v G hv) e k
theorem ra_c {G : Hp} {vs : List V} {rs : List Rp} (h : RA G vs (r :: rs)) : ∃ v ws, vs = v :: ws ∧ r.p v G ∧ RA G ws rs := by
  cases h with
  | cons hx h => exact ⟨_, _, rfl, hx, h⟩
theorem ra_n {G : Hp} {vs : List V} (h : RA G vs []) : vs = [] := by cases h; rfl
theorem tgt_2 : Tgt (gTup K 2 (gCons (gName j1) (gCons (gName j2) gNil))) (rT K [r1, r2]) [(j1, r1), (j2, r2)] := fun v G H σ Q hv e k => by
  obtain ⟨a, vs, rfl, h1, h2⟩ := hv
  obtain ⟨x, _, rfl, hx, h2⟩ := ra_c h2
  obtain ⟨y, _, rfl, hy, h2⟩ := ra_c h2
  obtain rfl := ra_n h2
  exact ⟨a, _, rfl, ex_t e h1, rfl, _, _, rfl, _, _, rfl, rfl, k [x, y] (.cons hx (.cons hy .nil))⟩
theorem w_un (h : EW W Γ M te (fun r M' => ∃ ups, Tgt g r ups ∧ κ.nx (setsC Γ ups) M') (κ.ex Γ)) : WP W Γ M (tAsg te g) κ := fun B G H σ D o en d =>
  h B G H σ o en _ (fun v G1 H1 r M1 z o1 e1 hv => by
    obtain ⟨ups, ht, hn⟩ := z
    exact ht v G1 H1 σ _ hv o1.i fun xs ra => d.nx _ G1 H1 _ M1 o1 ((en.mono e1).sets ra) hn) (fun cls fs dd G' H' M' k o' e' xd => d.ex σ G' H' Γ M' cls dd fs o' (en.mono e') xd k)
theorem Ok.tup {B : Ba} {G H : Hp} {q : Addr} {xs : List V} (o : Ok B G H M) (h : H q = some (.tup xs)) : ∃ G2, Ex G G2 ∧ Ok B G2 H M ∧ G2 q = some (.tup xs) := by
  cases gq : G q with
  | some u =>
    have := o.i q u gq
    rw [h] at this
    cases this
    exact ⟨G, Ex.refl _, o, gq⟩
  | none =>
    have e : Ex G (upd G q (.tup xs)) := Ex.new gq
    refine ⟨upd G q (.tup xs), e, ⟨o.g.trans e, o.l.trans e, o.h, ex_add o.i h, fun a u z t y => ?_, o.k, fun r hr => r.mono e (o.m r hr), fun a ha => ?_, o.d, o.f⟩, upd_same⟩
    · have ne : a ≠ q := fun c => by
        subst c
        by_cases f : a ∈ B.F
        · obtain ⟨u2, z2, t2⟩ := o.k a f
          rw [h] at z2
          cases z2
          exact t2 _ rfl
        · have := o.h a u z f
          rw [h] at this
          cases this
          exact t _ rfl
      rw [upd_ne ne]
      exact o.n a u z t y
    · have ne : a ≠ q := fun c => by
        subst c
        obtain ⟨r, hr, hf⟩ := List.mem_flatMap.mp ha
        obtain ⟨u, z, t⟩ := r.at_ (o.m r hr) a hf
        rw [h] at z
        cases z
        exact t _ rfl
      rw [upd_ne ne]
      exact o.z a ha
theorem Ok.keys {B : Ba} {H : Hp} : ∀ {ws : List (List Key × V)} {bs : List Addr} {G : Hp}, Ok B G H M → IsKeys H ws bs → ∃ G2, Ex G G2 ∧ Ok B G2 H M ∧ RA G2 (bs.map V.ref) (ws.map fun kv => rK kv.1)
  | [], bs, G, o, h => by cases h; exact ⟨G, Ex.refl _, o, .nil⟩
  | kv :: ws, bs, G, o, h => by
    cases h with
    | @cons _ b _ bs h1 h2 =>
      obtain ⟨G2, e2, o2, q2⟩ := o.tup h1
      obtain ⟨G3, e3, o3, ra⟩ := Ok.keys o2 h2
      exact ⟨G3, e2.trans e3, o3, .cons ⟨b, rfl, e3 _ _ q2⟩ ra⟩
end
section
variable {B : Ba} {G H : Hp} {M : List Re} {W : WX} {Γ : Ctx} {t : TS} {κ : Kn} {kvs : List (List Key × Rp)} {ws : List (List Key × V)} {p : Addr} {k : Nat} {od : Obj} {cs : Addr → Bool}
end
end Mu

namespace Lc3
open PySem PySem.Spec PyProof.Rows L2
section
variable {P : Program} {w : World} {B : Around} {Z : Result → Shared → Prop} {s0 : Shared} {C : Expr} {q : Nat} {I0 L0 : Value} {en : Env} {tgt src nxt el : Expr} {cs : List Expr}
abbrev no : Value → Shared → Prop := fun _ _ => False
end

abbrev TB := Addr → L2.St → Hp → (Hp → Prop) → Prop
def Kp (vs : List Nat) (σ σ' : L2.St) : Prop := σ.length = σ'.length ∧ ∀ (j : Nat) (v : V), j ∉ vs → σ[j]? = some (some v) → σ'[j]? = some (some v)
def Ends (Y : Cx) (pins : List (Addr × Obj)) (vs : List Nat) (σ : L2.St) (N : Hp → Prop) : Shared → Prop := fun g => ∃ H' σ', Inv Y pins σ' H' g ∧ Kp vs σ σ' ∧ N H'
section
variable {Y : Cx} {D : Addr} {C tgt src nxt el : Expr} {cs : List Expr} {q : Nat} {wi : TI} {g : TG} {tt : TT} {te : TE} {tB : TB} {vs vs' : List Nat} {todo : (Shared → Prop) → Shared → Prop}
end

section
variable {X : Cx}
abbrev cells (X : Cx) (scope : Scope) (n : Nat) : List (Str × Addr) := cellsFrom (n + 1) scope.names (cloFrom X.env.cells scope.names [])
end
end Lc3

namespace Mu
open PySem PySem.Spec PyProof.Rows L2 He Evl Lc3
section
variable {Γ : Ctx} {te : TE} {tB : TB} {j : Nat} {vs : List Nat} {β : Type} {ti : TI} {l : List β} {ρ : β → Rp} {r : Rp} {rs : β → List Rp}
end
end Mu

namespace Mu
open PySem PySem.Spec PyProof.Rows L2 He Evl
section
variable {α : Type} [DecidableEq α]
end
section
variable {W : WX} {Γ : Ctx} {M : List Re} {κ : KV} {ε : KX} {K : PySem.W.Frag} {t1 t2 t3 : TE} {a b c : Nat} {x y z : Int}
end
section
variable {Γ : Ctx} {ta tb : TE} {m n : Nat} {K : PySem.W.Frag} {α : Type} {rs : α → Rp}
end
end Mu

namespace Mu
open PySem PySem.Spec PyProof.Rows L2 He Evl
theorem KT.keys {H : Hp} {kvs : List (List Key × V)} {xs : List (List Key × Addr × Value)} (r : KT H kvs xs) : xs.map (·.1) = kvs.map (·.1) := by
  induction r with
  | nil => rfl
  | cons h t ih => rw [List.map_cons, List.map_cons, ih, h.1]
theorem KT.swap {H : Hp} {p : Addr} {o o' : HO} {kvs : List (List Key × V)} {xs : List (List Key × Addr × Value)} (r : KT (upd H p o) kvs xs) (hn : ∀ l, o ≠ .tup l) : KT (upd H p o') kvs xs := by
  induction r with
  | nil => exact .nil
  | @cons a b _ _ h t ih =>
    refine .cons ⟨h.1, ?_, h.2.2⟩ ih
    have h2 := h.2.1
    by_cases e : b.2.1 = p
    · rw [e, upd_same] at h2
      exact absurd (Option.some.inj h2) (hn _)
    · rw [upd_ne e] at h2 ⊢
      exact h2
end Mu
theorem L2.Room.u2 {k : Nat} {A : PySem.Around} (r : L2.Room k A) : A.units + 2 < PySem.cLine := by have := r.un; omega

namespace Lc3
open PySem PySem.Spec PyProof.Rows L2
section
variable {X : Cx}
end
end Lc3

namespace Mu
open PySem PySem.Spec PyProof.Rows L2 He Evl Lc3
theorem Gr.tup {G H G2 H2 : Hp} {q : Addr} {xs : List V} (g : Gr G H G2 H2) (h : H2 q = some (.tup xs)) : ∃ G3, Ex G2 G3 ∧ Gr G H G3 H2 ∧ G3 q = some (.tup xs) ∧ ∀ a, a ≠ q → G2 a = none → G3 a = none := by
  cases gq : G2 q with
  | some u =>
    have := g.i q u gq
    rw [h] at this
    cases this
    exact ⟨G2, Ex.refl _, g, gq, fun _ _ z => z⟩
  | none =>
    have e : Ex G2 (upd G2 q (.tup xs)) := Ex.new gq
    refine ⟨upd G2 q (.tup xs), e, ⟨g.g.trans e, g.h, ex_add g.i h, fun a o z t y => ?_⟩, upd_same, fun a ne z => by rw [upd_ne ne]; exact z⟩
    have ne : a ≠ q := fun c => by
      subst c
      have z2 := g.h _ _ z
      rw [h] at z2
      cases z2
      exact t _ rfl
    rw [upd_ne ne]
    exact g.n a o z t y
section
variable {t : TT} {te tk tv td : TE} {W : WX} {Γ : Ctx} {M : List Re} {κ : KV} {ε : KX} {K : PySem.W.Frag} {vs : List Nat} {j : Nat} {β : Type} {l : List β} {kf : β → List Key} {f : β → Bool} {rr : β → Rp} {kvs : List (List Key × Rp)}
end
end Mu

namespace Mu
open PySem PySem.Spec PyProof.Rows L2 He Evl
def SpDt (sp : Sp) (vs : List V) (G : Hp) (kvs : List (List Key × Rp)) : Prop := ∀ H, Ex G H → ∀ Q : VK, (∀ p ws G2 H2, Gr G H G2 H2 → H p = none → G2 p = none → H2 p = some (.dT ws) → DtR G2 ws kvs → Q (.ref p) H2) → ∀ E : XK, sp vs H Q E
def spDt (R : List V → Hp → List (List Key × Rp) → Prop) : Sp := fun vs H Q _ => ∃ G kvs, Ex G H ∧ R vs G kvs ∧ ∀ p ws G2 H2, Gr G H G2 H2 → H p = none → G2 p = none → H2 p = some (.dT ws) → DtR G2 ws kvs → Q (.ref p) H2
theorem SpDt.of {R : List V → Hp → List (List Key × Rp) → Prop} {vs : List V} {G : Hp} {kvs : List (List Key × Rp)} (h : R vs G kvs) : SpDt (spDt R) vs G kvs := fun H e Q q _ => ⟨G, kvs, e, h, q⟩
section
variable {W : WX} {Γ Γ' : Ctx} {M : List Re} {te : TE} {t : TS} {κ : KV} {ε : KX} {kvs : List (List Key × Rp)} {rs : List Rp} {sp : Sp} {G H : Hp} {σ : L2.St} {Q : VK} {z : Bool} {cs : Addr → Bool}
end
end Mu

namespace Mu
open PySem PySem.Spec PyProof.Rows L2 He Evl
def tRevL (K : PySem.W.Frag) (te ts : TE) : TE := fun σ H Q => te σ H fun x H1 => ts σ H1 fun k H2 => k = V.int (-1) ∧ ∃ a xs, x = V.ref a ∧ SqL K H2 a xs ∧ ∀ p, H2 p = none → Q (.ref p) (upd H2 p (.lst xs.reverse))
theorem pe_revSl {K : PySem.W.Frag} {X : Cx} {e st : Expr} {te ts : TE} {p2 pos : Pos} (he : PE X e te) (hs : PE X st ts) (hq : ∀ a b, subscripted (.Slice none none (some st) p2) false (.ref a) (.ref b) = operate [.ref a, .ref b] (getItem (.ref a) (.ref b)) := by intro _ _; with_unfolding_all rfl) (hK : X.K = K := by rfl) : PE X (.Subscript e (.Slice none none (some st) p2) pos) (tRevL K te ts) := by
  subst hK
  refine ⟨fun pins s σ H Q I h => ?_⟩
  refine Subscript_ (thn (he.run pins s σ H _ I h) fun v s1 ⟨x, H1, I1, r1, q1⟩ => ?_)
  refine wpAny_Slice ?_
  rw [evalPart_none]; refine wpAny_pure (wpAny_pure ?_); rw [evalPart_some]
  refine thn (hs.run pins s1 σ H1 _ I1 q1) fun vk s3 ⟨k, H3, I3, rk, q3⟩ => ?_
  obtain ⟨rfl, a, xs, rfl, hx, q⟩ := q3
  obtain ⟨t, rfl⟩ := rk
  obtain rfl : v = Value.ref a := r1
  have I4 : Inv X pins σ H3 { s3 with heap := s3.heap.push { cls := .type "slice", data := .fields #[.none, .none, .int (-1) t] } } := I3.kept (t' := s3.toks) fun b ob q => Heap.get?_push_of_some _ q
  obtain ⟨its, r, ht, hz⟩ := I4.list hx
  have hlen := r.length
  have hg : wpAny (model X.prog X.w) X.A (getItem (.ref a) (.ref s3.heap.objs.size)) (EP X pins σ Q) X.xe { s3 with heap := s3.heap.push { cls := .type "slice", data := .fields #[.none, .none, .int (-1) t] } } := by
    refine wpAny_getItem_list_slice ht.isList (Heap.IsSliceOf.new ..) .none .none (.int (-1) t) (by decide) ?_ (by rw [List.size_toArray] <;> omega)
    rw [PySem.W.krv_pick]
    refine ⟨.ref _, _, I4.laid (a := (s3.heap.push { cls := .type "slice", data := .fields #[.none, .none, .int (-1) t] }).objs.size) (t' := s3.toks) (o := .lst xs.reverse) (fun b ob q => Heap.get?_push_of_some _ q) (Nat.le_refl _) ?_, rfl, q _ (I4.hok.fresh (Nat.le_refl _))⟩
    exact ⟨by rw [List.length_reverse]; exact hz, _, 0, r.reverse, Heap.get?_push_size _ rfl⟩
  show wpAny (model X.prog X.w) X.A (subscriptTail e (.Slice none none (some st) p2) (.ref a) (.ref s3.heap.objs.size)) (EP X pins σ Q) X.xe _
  exact tail_any (ops := [.ref a, .ref s3.heap.objs.size]) ht.isList.typeIs slot_list_getitem.lookup hg (hq _ _)
section
variable {W : WX} {Γ : Ctx} {M : List Re} {te ts : TE} {ta : TA} {κ : KV} {ε : KX} {K : PySem.W.Frag} {C : Addr} {sp : Sp} {E : XK}
end
end Mu

namespace Mu
open PySem PySem.Spec PyProof.Rows L2 He Evl
section
variable {X : Cx} {CX : CXT} {k n : Nat} {f : Addr} {fd : FuncData} {ps ks : List Str} {sp : Sp} {x : Str} {p pos : Pos} {e : Expr} {es : List Expr} {kws : List Keyword} {t tk : TA} {g : List Value → List Value → List Value} {gV : List V → List V → List V}
end
section
variable {W : WX} {Γ : Ctx} {M : List Re} {κ : KV} {ε : KX} {ta tk : TA} {n m : Nat} {sp : Sp} {E : XK} {dv : V} {rd : Rp}
end
end Mu

namespace Mu
open PySem PySem.Spec PyProof.Rows L2 He Evl
section
variable {X : Cx} {CX : CXT} {k : Nat} {C g : Addr} {f : Str} {fd : FuncData} {ps : List Str} {sp : Sp} {E : L2.St → XK} {o value : Expr} {pos pos' : Pos} {ta tv : TE}
end
end Mu

namespace Mu
open PySem PySem.Spec PyProof.Rows L2 He Evl
end Mu

namespace Mu
open PySem PySem.Spec PyProof.Rows L2 He Evl
section
variable {X : Cx} {CX : CXT} {k : Nat} {f C : Addr} {fd : FuncData} {ps : List Str} {sp : Sp} {m : Str} {pos pos' : Pos} {x : Str} {e : Expr} {i : Nat} {te : TE}
end
section
variable {W : WX} {Γ : Ctx} {M : List Re} {κ : Kn} {C p : Addr} {sp : Sp} {i : Nat} {te : TE}
end
end Mu

namespace Mu
open PySem PySem.Spec PyProof.Rows L2 He Evl StX GenW
section
variable {X : Cx} {st : Stmt} {test : Expr} {a b : List Stmt} {pos : Pos} {ts : TS} {tc : TT} {t u : TGn}
theorem ps_nox (h : PS X.nox st ts) : PS X st ts := ⟨fun pins s σ H D I hw =>
  wpAny_mono (h.run pins s σ H D (I.wish _) hw) (fun _ _ q => q.unwish) fun _ _ z => False.elim z⟩
end
section
variable {P : Program} {w : World} {K : PySem.W.Frag} {mg : Str → Option Value} {base : Heap} {x qual : Str} {params : Arguments} {body : List Stmt} {scope : Scope} {dvs : List V} {kws : List (Str × V)} {f : Addr} {fd : FuncData}
end
abbrev XF0 : XK := fun _ _ _ => False
theorem ra_valsG : ∀ {G : Hp} (out : List V), RA G out (out.map rV)
  | _, [] => .nil
  | _, v :: out => .cons rfl (ra_valsG out)
structure GKn where
  nx : List V → Ctx → List Re → Prop
  rt : List V → Rp → List Re → Prop := fun _ _ _ => False
  bk : List V → Ctx → List Re → Prop := fun _ _ _ => False
  ct : List V → Ctx → List Re → Prop := fun _ _ _ => False
def GKn.at_ (κ : GKn) (ys : List V) : Kn := { nx := κ.nx ys, rt := κ.rt ys, bk := κ.bk ys, ct := κ.ct ys }
abbrev W0 : WX := fun _ _ _ _ => False
section
variable {Γ Γ' : Ctx} {M : List Re} {ys : List V} {t u : TGn} {ts : TS} {tc : TT} {te : TE} {κ : GKn} {v : V}
theorem ext_t {b : Bool} (h : EvTX Γ tc b) : EXT Γ M tc (fun c M' => c = b ∧ M' = M) := EXT.ofW fun W => w_tx h ⟨rfl, rfl⟩
end
end Mu

namespace Mu
open PySem PySem.Spec PyProof.Rows L2 He Evl StX GenW
def kNo : Resume → Sem PySem.Fin := fun _ => .unsupported ""
def lull : GenState → GenState
  | .suspended _ l c p fs cl => .suspended kNo l c p fs cl
  | x => x
def Nap : GenState → Prop
  | .suspended .. => True
  | _ => False
theorem lull_seen (x : GenState) : (lull x).seen = x.seen := by cases x <;> rfl
theorem lull_bare (x : GenState) : (lull x).bare = x.bare := by cases x <;> rfl
def Fine (x : GenState) : Prop := ∀ k l c p fs cl, x = .suspended k l c p fs cl → k = kNo ∨ splitAtGen fs = none
structure Lu (g : Nat) (R : GenState) (G G2 : Array GenState) : Prop where
  sz : G2.size = G.size
  nap : Nap R
  here : G[g]? = some (lull R)
  real : G2[g]? = some R
  ent : ∀ (i : Nat) (x y : GenState), G[i]? = some x → G2[i]? = some y → x = y ∨ x = lull y
  fine : ∀ (i : Nat) (x : GenState), G[i]? = some x → Fine x
theorem Lu.get {g : Nat} {R : GenState} {G G2 : Array GenState} (h : Lu g R G G2) {i : Nat} {x : GenState} (e : G[i]? = some x) : ∃ y, G2[i]? = some y ∧ (x = y ∨ x = lull y) := by
  have hi := (Array.getElem?_eq_some_iff.mp e).1
  have hi2 : i < G2.size := by rw [h.sz]; exact hi
  exact ⟨G2[i], Array.getElem?_eq_getElem hi2, h.ent i x _ e (Array.getElem?_eq_getElem hi2)⟩
theorem set_at {G : Array GenState} {i j : Nat} {x y : GenState} (h : (G.setIfInBounds i x)[j]? = some y) : (i = j ∧ y = x) ∨ (i ≠ j ∧ G[j]? = some y) := by
  by_cases c : i = j
  · subst c
    left
    by_cases b : i < G.size
    · have q : (G.setIfInBounds i x)[i]? = some x := by simp [b]
      rw [q] at h
      exact ⟨rfl, (Option.some.inj h).symm⟩
    · have q : (G.setIfInBounds i x)[i]? = none := by
        rw [Array.getElem?_eq_none_iff]
        simp only [Array.size_setIfInBounds]
        omega
      rw [q] at h; cases h
  · right
    rw [Array.getElem?_setIfInBounds_ne c] at h
    exact ⟨c, h⟩
theorem Lu.set {g i : Nat} {R x : GenState} {G G2 : Array GenState} (h : Lu g R G G2) (hi : i ≠ g) (hx : Fine x) : Lu g R (G.setIfInBounds i x) (G2.setIfInBounds i x) where
  sz := by rw [Array.size_setIfInBounds, Array.size_setIfInBounds, h.sz]
  nap := h.nap
  here := by rw [Array.getElem?_setIfInBounds_ne hi]; exact h.here
  real := by rw [Array.getElem?_setIfInBounds_ne hi]; exact h.real
  ent := fun j a b ea eb => by
    rcases set_at ea with ⟨q, e1⟩ | ⟨q, e1⟩
    · rcases set_at eb with ⟨_, e2⟩ | ⟨q2, _⟩
      · exact .inl (e1.trans e2.symm)
      · exact absurd q q2
    · rcases set_at eb with ⟨q2, _⟩ | ⟨_, e2⟩
      · exact absurd q2 q
      · exact h.ent j a b e1 e2
  fine := fun j a ea => by
    rcases set_at ea with ⟨_, e1⟩ | ⟨_, e1⟩
    · rw [e1]; exact hx
    · exact h.fine j a e1
theorem push_get {G : Array GenState} {i : Nat} {x y : GenState} (h : (G.push x)[i]? = some y) : (i = G.size ∧ y = x) ∨ G[i]? = some y := by
  rw [Array.getElem?_push] at h
  split at h
  · rename_i c
    exact .inl ⟨c, (Option.some.inj h).symm⟩
  · exact .inr h
theorem Lu.push {g : Nat} {R : GenState} {G G2 : Array GenState} (h : Lu g R G G2) (c : Code) : Lu g R (G.push (.fresh c)) (G2.push (.fresh c)) where
  sz := by rw [Array.size_push, Array.size_push, h.sz]
  nap := h.nap
  here := by
    have hl := (Array.getElem?_eq_some_iff.mp h.here).1
    rw [Array.getElem?_push, if_neg (Nat.ne_of_lt hl)]; exact h.here
  real := by
    have hl := (Array.getElem?_eq_some_iff.mp h.real).1
    rw [Array.getElem?_push, if_neg (Nat.ne_of_lt hl)]; exact h.real
  ent := fun j a b ea eb => by
    rcases push_get ea with ⟨q, e1⟩ | e1
    · rcases push_get eb with ⟨_, e2⟩ | e2
      · exact .inl (e1.trans e2.symm)
      · have := (Array.getElem?_eq_some_iff.mp e2).1
        rw [h.sz, q] at this
        exact absurd this (Nat.lt_irrefl _)
    · rcases push_get eb with ⟨q, _⟩ | e2
      · have := (Array.getElem?_eq_some_iff.mp e1).1
        rw [q, h.sz] at this
        exact absurd this (Nat.lt_irrefl _)
      · exact h.ent j a b e1 e2
  fine := fun j a ea => by
    rcases push_get ea with ⟨_, e1⟩ | e1
    · rw [e1]; exact fun _ _ _ _ _ _ z => nomatch z
    · exact h.fine j a e1
theorem lull_nap {x : GenState} (h : Nap x) : ∃ k l c p fs cl, x = .suspended k l c p fs cl ∧ lull x = .suspended kNo l c p fs cl := by
  cases x with
  | suspended k l c p fs cl => exact ⟨k, l, c, p, fs, cl, rfl, rfl⟩
  | fresh c => exact h.elim
  | running => exact h.elim
  | finished => exact h.elim
theorem Lu.start {g : Nat} {R : GenState} {G : Array GenState} (h : G[g]? = some R) (hn : Nap R) : Lu g R (G.map lull) G where
  sz := by rw [Array.size_map]
  nap := hn
  here := by rw [Array.getElem?_map, h]; rfl
  real := h
  ent := fun i x y ex ey => by
    rw [Array.getElem?_map, ey] at ex
    exact .inr (Option.some.inj ex).symm
  fine := fun i x ex => by
    rw [Array.getElem?_map] at ex
    cases q : G[i]? with
    | none => rw [q] at ex; cases ex
    | some y =>
      rw [q] at ex
      have e : lull y = x := Option.some.inj ex
      subst e
      intro k l c p fs cl e
      cases y with
      | suspended k' l' c' p' fs' cl' =>
        have e : GenState.suspended kNo l' c' p' fs' cl' = .suspended k l c p fs cl := e
        injection e with e1
        exact .inl e1.symm
      | fresh c => exact nomatch e
      | running => exact nomatch e
      | finished => exact nomatch e
theorem Lu.allBare {g : Nat} {R : GenState} {G G2 : Array GenState} (h : Lu g R G G2) (b : AllBare G) : AllBare G2 := fun y hy => by
  obtain ⟨i, hi, e⟩ := Array.mem_iff_getElem.mp hy
  have hi1 : i < G.size := by rw [← h.sz]; exact hi
  have e1 : G[i]? = some G[i] := Array.getElem?_eq_getElem hi1
  have e2 : G2[i]? = some y := by rw [Array.getElem?_eq_getElem hi, e]
  have hb := b _ (Array.mem_of_getElem? e1)
  rcases h.ent i _ y e1 e2 with q | q
  · rw [← q]; exact hb
  · rw [q, lull_bare] at hb; exact hb
theorem allBare_lull {G : Array GenState} (b : AllBare G) : AllBare (G.map lull) := fun y hy => by
  obtain ⟨x, hx, e⟩ := Array.mem_map.mp hy
  rw [← e, lull_bare]; exact b x hx
section
variable {M : Model}
theorem no_run {Γ : PySem.Ctx} {p : Pos} {w : String} {fs : List Frame} {s s' : Shared} {e : End} (h : Runs M Γ p (.unsupported w) fs s e s') : False := by
  generalize ht : (Sem.unsupported w : Sem PySem.Fin) = t at h
  induction h <;> first | (cases ht; done) | (rename_i ih1 ih2; exact ih1 ht) | (rename_i ih1; exact ih1 ht)
def NoG (e : End) : Prop := ∀ v g₀ l k c p fs, e = .susp v g₀ l k c p fs → splitAtGen fs = none
theorem NoG.fine {e : End} (h : NoG e) : Fine e.genState := by
  cases e with
  | ret r => exact fun _ _ _ _ _ _ z => nomatch z
  | susp v g l k c p fs =>
    intro k' l' c' p' fs' cl' z
    have z : GenState.suspended k l c p fs (g || fs.any Frame.guarded) = .suspended k' l' c' p' fs' cl' := z
    injection z with _ _ _ _ z5
    rw [← z5]
    exact .inr (h v g l k c p fs rfl)
theorem split_app {a b : List Frame} (ha : splitAtGen a = none) (hb : splitAtGen b = none) : splitAtGen (a ++ b) = none := by
  induction a with
  | nil => exact hb
  | cons f a ih =>
    cases f with
    | gen g k l c p => exact nomatch ha
    | ret k h g l c p kp =>
      have ha : (splitAtGen a).map _ = none := ha
      have h1 : splitAtGen a = none := Option.map_eq_none_iff.mp ha
      show (splitAtGen (a ++ b)).map _ = none
      rw [ih h1]; rfl
theorem split_tail {f : Frame} {a : List Frame} (h : splitAtGen (f :: a) = none) : splitAtGen a = none := by
  cases f with
  | gen g k l c p => exact nomatch h
  | ret k hh g l c p kp =>
    have h : (splitAtGen a).map _ = none := h
    exact Option.map_eq_none_iff.mp h
theorem fresh_dz {c : Code} {y : GenState} (q : GenState.fresh c = y ∨ GenState.fresh c = lull y) : y = .fresh c := by
  rcases q with q | q
  · exact q.symm
  · cases y with
    | fresh d => exact q.symm
    | suspended k l c p fs cl => exact nomatch q
    | running => exact nomatch q
    | finished => exact nomatch q
theorem Lu.ne {g i : Nat} {R : GenState} {G G2 : Array GenState} {c : Code} (l : Lu g R G G2) (h : G[i]? = some (.fresh c)) : i ≠ g := fun z => by
  subst z
  obtain ⟨k, l', c, p, fs, cl, _, e2⟩ := lull_nap l.nap
  rw [l.here, e2] at h; cases h
theorem Lu.fr {g i : Nat} {R : GenState} {G G2 : Array GenState} {c : Code} (l : Lu g R G G2) (h : G[i]? = some (.fresh c)) : G2[i]? = some (.fresh c) := by
  obtain ⟨y, ey, q⟩ := l.get h
  rw [fresh_dz q] at ey; exact ey
theorem runs_lull {g : Nat} {R : GenState} {Γ : PySem.Ctx} {p : Pos} {t : Sem PySem.Fin} {fs : List Frame} {s s' : Shared} {e : End} (h : Runs M Γ p t fs s e s') :
    ∀ G2, splitAtGen fs = none → Lu g R s.gens G2 → ∃ G3, Runs M Γ p t fs { s with gens := G2 } e { s' with gens := G3 } ∧ Lu g R s'.gens G3 ∧ NoG e := by
  have nog : ∀ r, NoG (.ret r) := fun r _ _ _ _ _ _ _ z => nomatch z
  induction h with
  | done => exact fun G2 _ l => ⟨G2, .done, l, nog _⟩
  | raise => exact fun G2 _ l => ⟨G2, .raise, l, nog _⟩
  | again hq _ ih => exact fun G2 hf l => let ⟨G3, a, b, c⟩ := ih G2 hf l; ⟨G3, .again hq a, b, c⟩
  | rule _ ih => exact fun G2 hf l => let ⟨G3, a, b, c⟩ := ih G2 hf l; ⟨G3, .rule a, b, c⟩
  | «at» _ ih => exact fun G2 hf l => let ⟨G3, a, b, c⟩ := ih G2 hf l; ⟨G3, .at a, b, c⟩
  | load ho _ ih => exact fun G2 hf l => let ⟨G3, a, b, c⟩ := ih G2 hf l; ⟨G3, .load ho a, b, c⟩
  | update ho _ ih => exact fun G2 hf l => let ⟨G3, a, b, c⟩ := ih G2 hf l; ⟨G3, .update ho a, b, c⟩
  | loadIfAlive _ ih => exact fun G2 hf l => let ⟨G3, a, b, c⟩ := ih G2 hf l; ⟨G3, .loadIfAlive a, b, c⟩
  | point _ ih => exact fun G2 hf l => let ⟨G3, a, b, c⟩ := ih G2 hf l; ⟨G3, .point a, b, c⟩
  | alloc _ ih => exact fun G2 hf l => let ⟨G3, a, b, c⟩ := ih G2 hf l; ⟨G3, .alloc a, b, c⟩
  | fresh _ ih => exact fun G2 hf l => let ⟨G3, a, b, c⟩ := ih G2 hf l; ⟨G3, .fresh a, b, c⟩
  | ask _ ih => exact fun G2 hf l => let ⟨G3, a, b, c⟩ := ih G2 hf l; ⟨G3, .ask a, b, c⟩
  | choose hn _ ih => exact fun G2 hf l => let ⟨G3, a, b, c⟩ := ih G2 hf l; ⟨G3, .choose hn a, b, c⟩
  | os _ ih => exact fun G2 hf l => let ⟨G3, a, b, c⟩ := ih G2 hf l; ⟨G3, .os a, b, c⟩
  | handled _ ih => exact fun G2 hf l => let ⟨G3, a, b, c⟩ := ih G2 hf l; ⟨G3, .handled a, b, c⟩
  | stack _ ih => exact fun G2 hf l => let ⟨G3, a, b, c⟩ := ih G2 hf l; ⟨G3, .stack a, b, c⟩
  | thread _ ih => exact fun G2 hf l => let ⟨G3, a, b, c⟩ := ih G2 hf l; ⟨G3, .thread a, b, c⟩
  | genState hg _ ih =>
    intro G2 hf l
    obtain ⟨G3, a, b, c⟩ := ih G2 hf l
    obtain ⟨y, ey, q⟩ := l.get hg
    refine ⟨G3, .genState (st := y) ey ?_, b, c⟩
    rcases q with q | q
    · rw [← q]; exact a
    · rw [q, lull_seen] at a; exact a
  | newGen _ ih =>
    intro G2 hf l
    obtain ⟨G3, a, b, c⟩ := ih (G2.push _) hf (l.push _)
    rw [← l.sz] at a
    exact ⟨G3, .newGen a, b, c⟩
  | call _ _ ih1 ih2 =>
    intro G2 hf l
    obtain ⟨G3, a, b, _⟩ := ih1 G2 rfl l
    obtain ⟨G4, a2, b2, c2⟩ := ih2 G3 hf b
    exact ⟨G4, .call a a2, b2, c2⟩
  | callSusp _ ih =>
    intro G2 hf l
    obtain ⟨G3, a, b, c⟩ := ih G2 rfl l
    refine ⟨G3, .callSusp a, b, fun v g₀ l k c' p fs z => ?_⟩
    injection z with _ _ _ _ _ _ z7
    rw [← z7]
    exact split_app (c _ _ _ _ _ _ _ rfl) rfl
  | yield =>
    intro G2 hf l
    refine ⟨G2, .yield, l, fun v g₀ l k c' p fs z => ?_⟩
    injection z with _ _ _ _ _ _ z7
    rw [← z7]; rfl
  | @resumeFresh Γ p g' l1 k1 s1 c1 e1 s2 e2 s3 hg _ hq _ ih1 ih2 =>
    intro G2 hf l
    have ne := l.ne hg
    obtain ⟨G3, a, b, c⟩ := ih1 (G2.setIfInBounds g' .running) rfl (l.set ne fun _ _ _ _ _ _ z => nomatch z)
    obtain ⟨G4, a2, b2, c2⟩ := ih2 (G3.setIfInBounds g' _) hf (b.set ne c.fine)
    exact ⟨G4, .resumeFresh (l.fr hg) a hq a2, b2, c2⟩
  | @resumeSuspended Γ p g' r1 l1 k1 s1 k2 l2 c2 p2 fs2 cl2 e1 s2 e2 s3 hg hr hq _ ih1 ih2 =>
    intro G2 hf l
    by_cases hk : g' = g
    · subst hk
      obtain ⟨k, l', c, p, fs, cl, _, e2⟩ := lull_nap l.nap
      rw [l.here, e2] at hg
      injection hg with hg
      injection hg with e1
      rw [← e1] at hr
      exact (no_run hr).elim
    obtain ⟨y, ey, q⟩ := l.get hg
    rcases q with q | q
    · subst q
      rcases l.fine _ _ hg _ _ _ _ _ _ rfl with z | z
      · rw [z] at hr
        exact (no_run hr).elim
      obtain ⟨G3, a, b, c⟩ := ih1 (G2.setIfInBounds g' .running) z (l.set hk fun _ _ _ _ _ _ z => nomatch z)
      obtain ⟨G4, a2, b2, c2⟩ := ih2 (G3.setIfInBounds g' _) hf (b.set hk c.fine)
      exact ⟨G4, .resumeSuspended ey a hq a2, b2, c2⟩
    · cases y with
      | suspended k l' c p fs cl =>
        have q : GenState.suspended _ _ _ _ _ _ = .suspended kNo l' c p fs cl := q
        injection q with e1
        rw [e1] at hr
        exact (no_run hr).elim
      | fresh c => exact nomatch q
      | running => exact nomatch q
      | finished => exact nomatch q
  | resumeJustStarted hg hv _ ih =>
    intro G2 hf l
    obtain ⟨G3, a, b, c⟩ := ih G2 hf l
    exact ⟨G3, .resumeJustStarted (l.fr hg) hv a, b, c⟩
  | resumeThrowFresh hg _ ih =>
    intro G2 hf l
    obtain ⟨G3, a, b, c⟩ := ih (G2.setIfInBounds _ .finished) hf (l.set (l.ne hg) fun _ _ _ _ _ _ z => nomatch z)
    exact ⟨G3, .resumeThrowFresh (l.fr hg) a, b, c⟩
  | resumeRunning hg _ ih =>
    intro G2 hf l
    obtain ⟨G3, a, b, c⟩ := ih G2 hf l
    obtain ⟨y, ey, q⟩ := l.get hg
    refine ⟨G3, .resumeRunning ?_ a, b, c⟩
    rcases q with q | q
    · rw [q]; exact ey
    · cases y with
      | running => exact ey
      | suspended k l c p fs cl => exact nomatch q
      | fresh c => exact nomatch q
      | finished => exact nomatch q
  | resumeFinished hg _ ih =>
    intro G2 hf l
    obtain ⟨G3, a, b, c⟩ := ih G2 hf l
    obtain ⟨y, ey, q⟩ := l.get hg
    refine ⟨G3, .resumeFinished ?_ a, b, c⟩
    rcases q with q | q
    · rw [q]; exact ey
    · cases y with
      | finished => exact ey
      | suspended k l c p fs cl => exact nomatch q
      | fresh c => exact nomatch q
      | running => exact nomatch q
  | segRet _ _ ih1 ih2 =>
    intro G2 hf l
    obtain ⟨G3, a, b, _⟩ := ih1 G2 rfl l
    obtain ⟨G4, a2, b2, c2⟩ := ih2 G3 (split_tail hf) b
    exact ⟨G4, .segRet a a2, b2, c2⟩
  | segGen _ _ _ _ => exact fun G2 hf l => nomatch hf
  | segSuspOut hs _ ih =>
    intro G2 hf l
    obtain ⟨G3, a, b, c⟩ := ih G2 rfl l
    refine ⟨G3, .segSuspOut hs a, b, fun v g₀ l k c' p fs z => ?_⟩
    injection z with _ _ _ _ _ _ z7
    rw [← z7]
    exact split_app (c _ _ _ _ _ _ _ rfl) hs
  | segSuspGen hs _ _ _ _ _ => exact fun G2 hf l => by rw [hs] at hf; cases hf
theorem wakes_lull {g g' : Nat} {R : GenState} {Γ : PySem.Ctx} {p : Pos} {r : Resume} {res : GenResult} {s s' : Shared} (h : Wakes M Γ p g' r s res s') {G2 : Array GenState} (l : Lu g R s.gens G2) :
    ∃ G3, Wakes M Γ p g' r { s with gens := G2 } res { s' with gens := G3 } ∧ Lu g R s'.gens G3 := by
  unfold Wakes at h
  split at h
  · exact h.elim
  · rename_i c hg
    have ne := l.ne hg
    have h2 := l.fr hg
    split at h
    · obtain ⟨e₁, s₁, hr, hq, e1, rfl⟩ := h
      obtain ⟨G3, a, b, c2⟩ := runs_lull hr (G2.setIfInBounds g' .running) rfl (l.set ne fun _ _ _ _ _ _ z => nomatch z)
      refine ⟨G3.setIfInBounds g' e₁.genState, ?_, b.set ne c2.fine⟩
      unfold Wakes
      dsimp only
      rw [h2]
      exact ⟨e₁, _, a, hq, e1, rfl⟩
    · rename_i v hv
      obtain ⟨e1, rfl⟩ := h
      refine ⟨G2, ?_, l⟩
      unfold Wakes
      dsimp only
      rw [h2]
      cases v <;> first | exact ⟨e1, rfl⟩ | exact (hv rfl).elim
    · obtain ⟨e1, rfl⟩ := h
      refine ⟨G2.setIfInBounds g' .finished, ?_, l.set ne fun _ _ _ _ _ _ z => nomatch z⟩
      unfold Wakes
      dsimp only
      rw [h2]
      exact ⟨e1, rfl⟩
  · rename_i k l1 c p1 fs cl hg
    obtain ⟨e₁, s₁, hr, hq, e1, rfl⟩ := h
    by_cases hk : g' = g
    · subst hk
      obtain ⟨k', l', c', p', fs', cl', _, e2⟩ := lull_nap l.nap
      rw [l.here, e2] at hg
      injection hg with hg
      injection hg with e3
      rw [← e3] at hr
      exact (no_run hr).elim
    obtain ⟨y, ey, q⟩ := l.get hg
    rcases q with q | q
    · subst q
      rcases l.fine _ _ hg _ _ _ _ _ _ rfl with z | z
      · rw [z] at hr
        exact (no_run hr).elim
      obtain ⟨G3, a, b, c2⟩ := runs_lull hr (G2.setIfInBounds g' .running) z (l.set hk fun _ _ _ _ _ _ z => nomatch z)
      refine ⟨G3.setIfInBounds g' e₁.genState, ?_, b.set hk c2.fine⟩
      unfold Wakes
      dsimp only
      rw [ey]
      exact ⟨e₁, _, a, hq, e1, rfl⟩
    · cases y with
      | suspended k' l' c' p' fs' cl' =>
        have q : GenState.suspended k l1 c p1 fs cl = .suspended kNo l' c' p' fs' cl' := q
        injection q with e3
        rw [e3] at hr
        exact (no_run hr).elim
      | fresh c => exact nomatch q
      | running => exact nomatch q
      | finished => exact nomatch q
  · rename_i hg
    obtain ⟨e1, rfl⟩ := h
    obtain ⟨y, ey, q⟩ := l.get hg
    have ey : G2[g']? = some .running := by
      rcases q with q | q
      · rw [q]; exact ey
      · cases y with
        | running => exact ey
        | suspended k l c p fs cl => exact nomatch q
        | fresh c => exact nomatch q
        | finished => exact nomatch q
    refine ⟨G2, ?_, l⟩
    unfold Wakes
    dsimp only
    rw [ey]
    exact ⟨e1, rfl⟩
  · rename_i hg
    obtain ⟨e1, rfl⟩ := h
    obtain ⟨y, ey, q⟩ := l.get hg
    have ey : G2[g']? = some .finished := by
      rcases q with q | q
      · rw [q]; exact ey
      · cases y with
        | finished => exact ey
        | suspended k l c p fs cl => exact nomatch q
        | fresh c => exact nomatch q
        | running => exact nomatch q
    refine ⟨G2, ?_, l⟩
    unfold Wakes
    dsimp only
    rw [ey]
    exact ⟨e1, rfl⟩
theorem wp_lull {α : Type} {g : Nat} {R : GenState} {Γ : PySem.Ctx} (t : Sem α) : ∀ (Q : α → Pos → Shared → Prop) (E : Value → Pos → Shared → Prop) (p : Pos) (s : Shared) (G2 : Array GenState), Lu g R s.gens G2 → Sem.wp M Γ t Q E p s →
    Sem.wp M Γ t (fun a p' s' => ∃ G, Lu g R G s'.gens ∧ Q a p' { s' with gens := G }) (fun e p' s' => ∃ G, Lu g R G s'.gens ∧ E e p' { s' with gens := G }) p { s with gens := G2 } := by
  induction t with
  | pure a => intro Q E p s G2 l h; exact ⟨s.gens, l, h⟩
  | raise e => intro Q E p s G2 l h; exact ⟨s.gens, l, h⟩
  | unsupported _ => intro Q E p s G2 l h; exact h
  | finish _ => intro Q E p s G2 l h; exact h
  | register _ _ _ => intro Q E p s G2 l h; exact h
  | fork _ _ _ => intro Q E p s G2 l h; exact h
  | await _ _ _ _ _ _ => intro Q E p s G2 l h; exact h
  | yield _ _ _ _ _ => intro Q E p s G2 l h; exact h
  | rule _ k ih => intro Q E p s G2 l h; exact ih () Q E p s G2 l h
  | «at» p' k ih => intro Q E p s G2 l h; exact ih () Q E p' s G2 l h
  | load a _ k ih => intro Q E p s G2 l h; obtain ⟨o, ho, h⟩ := h; exact ⟨o, ho, ih o Q E p s G2 l h⟩
  | update a _ f k ih => intro Q E p s G2 l h; exact ⟨h.1, ih () Q E p { s with heap := s.heap.update a f } G2 l h.2⟩
  | loadIfAlive a k ih => intro Q E p s G2 l h; exact ih _ Q E p s G2 l h
  | point _ k ih => intro Q E p s G2 l h; exact ih () Q E p s G2 l h
  | alloc o k ih => intro Q E p s G2 l h; exact ih _ Q E p { s with heap := s.heap.push o } G2 l h
  | fresh k ih => intro Q E p s G2 l h; exact ih _ Q E p { s with toks := s.toks + 1 } G2 l h
  | ask k ih => intro Q E p s G2 l h; exact ih _ Q E p s G2 l h
  | choose src m k ih => intro Q E p s G2 l h; exact ⟨h.1, ih _ Q E p { s with drawn := s.drawn.bump src } G2 l h.2⟩
  | os q _ k ih => intro Q E p s G2 l h; exact ih _ Q E p { s with os := (Os.step s.os q).1 } G2 l h
  | call c hd _ _ k ih =>
    intro Q E p s G2 l h
    obtain ⟨r, s', hr, h⟩ := h
    obtain ⟨G3, a, b, _⟩ := runs_lull hr G2 rfl l
    exact ⟨r, _, a, ih r Q E p s' G3 b h⟩
  | handled own k ih => intro Q E p s G2 l h; exact ih _ Q E p s G2 l h
  | genState g' k ih =>
    intro Q E p s G2 l h
    obtain ⟨st, hs, h⟩ := h
    obtain ⟨y, ey, q⟩ := l.get hs
    refine ⟨y, ey, ih _ Q E p s G2 l ?_⟩
    rcases q with q | q
    · rw [← q]; exact h
    · rw [q, lull_seen] at h; exact h
  | newGen c k ih =>
    intro Q E p s G2 l h
    have h2 := ih _ Q E p { s with gens := s.gens.push (.fresh c) } (G2.push (.fresh c)) (l.push c) h
    rw [← l.sz] at h2
    exact h2
  | resume g' r _ k ih =>
    intro Q E p s G2 l h
    obtain ⟨res, s', hw, h⟩ := h
    obtain ⟨G3, a, b⟩ := wakes_lull hw l
    exact ⟨res, _, a, ih res Q E p s' G3 b h⟩
  | stack k ih => intro Q E p s G2 l h; exact ih _ Q E p s G2 l h
  | thread k ih => intro Q E p s G2 l h; exact ih _ Q E p s G2 l h
theorem wpAny_lull {α : Type} {A : Around} {t : Sem α} {Q : α → Shared → Prop} {E : Value → Shared → Prop} {s : Shared} {g : Nat} {R : GenState} (hg : s.gens[g]? = some R) (hn : Nap R) (h : wpAny M A t Q E { s with gens := s.gens.map lull }) :
    wpAny M A t (fun a s' => s'.gens[g]? = some R ∧ ∃ G, (AllBare G → AllBare s'.gens) ∧ Q a { s' with gens := G }) (fun e s' => ∃ G, (AllBare G → AllBare s'.gens) ∧ E e { s' with gens := G }) s := fun Γ p hΓ => by
  have q := wp_lull t _ _ p { s with gens := s.gens.map lull } s.gens (Lu.start hg hn) (h Γ p hΓ)
  refine Sem.wp_mono M Γ t (fun a p' s' hq => ?_) (fun e p' s' hq => ?_) _ _ q
  · obtain ⟨G, l, q⟩ := hq
    exact ⟨l.real, G, l.allBare, q⟩
  · obtain ⟨G, l, q⟩ := hq
    exact ⟨G, l.allBare, q⟩
end
end Mu

namespace Mu
open PySem PySem.Spec PyProof.Rows L2 He Evl StX GenW
def gone : Obj := { cls := .none, data := .freed }
def cut (L : Nat) (h : Heap) : Heap := { h with objs := Array.ofFn (n := L) fun i => (h.objs[i.val]?).getD gone }
theorem cut_at {L b : Nat} {h : Heap} : (cut L h).objs[b]? = if b < L then some ((h.objs[b]?).getD gone) else none := by
  unfold cut
  dsimp only
  rw [Array.getElem?_ofFn]
  split <;> rfl
theorem cut_get {L b : Nat} {h : Heap} (hb : b < L) : (cut L h).get? b = h.get? b := by
  unfold Heap.get?
  rw [cut_at, if_pos hb]
  cases q : h.objs[b]? with
  | none => rfl
  | some o => rfl
theorem cut_of {L b : Nat} {h : Heap} {o : Obj} (e : (cut L h).get? b = some o) : b < L ∧ h.get? b = some o := by
  by_cases hb : b < L
  · exact ⟨hb, (cut_get hb).symm.trans e⟩
  · have q : (cut L h).objs[b]? = none := by rw [cut_at, if_neg hb]
    unfold Heap.get? at e
    rw [q] at e
    cases e
theorem cut_size {L : Nat} {h : Heap} : (cut L h).objs.size = L := by
  unfold cut
  simp
structure Fm where
  P : Program
  w : World
  K : PySem.W.Frag
  mg : Str → Option Value
  base : Heap
  N : List Str
  qual : Str
  scope : Scope
  f : Addr
  cd : Value
  A : Around
  outer : List Env
  pn : List (Addr × Obj)
  L : Addr
  E : List Addr
def Fm.pe (F : Fm) (s : Shared) : List (Addr × Obj) := F.E.map fun b => (b, (s.heap.get? b).getD gone)
theorem Fm.mem_pe {F : Fm} {s : Shared} {b : Addr} (h : b ∈ F.E) : (b, (s.heap.get? b).getD gone) ∈ F.pe s := List.mem_map.mpr ⟨b, h, rfl⟩
theorem Fm.of_pe {F : Fm} {s : Shared} {p : Addr × Obj} (h : p ∈ F.pe s) : p.1 ∈ F.E ∧ p.2 = (s.heap.get? p.1).getD gone := by
  obtain ⟨b, hb, e⟩ := List.mem_map.mp h
  subst e
  exact ⟨hb, rfl⟩
def Fm.env (F : Fm) : Env := envOfC F.qual F.scope F.L F.f F.cd
def Fm.X (F : Fm) (s : Shared) (H : Hp) : Cx where
  prog := F.P
  w := F.w
  K := F.K
  mg := F.mg
  base := F.base
  A := F.A.deeper F.env
  N := F.N
  s_0 := { s with heap := cut F.L s.heap }
  H_0 := H
  env := F.env
  outer := F.outer
  stack := F.env :: F.outer
  ex := []
  fn := fun _ => true
  calm := true
  pn := F.pn ++ F.pe s
  xe := fun _ _ => False
structure Fit (F : Fm) : Prop where
  kind : F.scope.kind = .function
  cells : ∀ n, cellsFrom n F.scope.names [] = []
  plain : ∀ x, F.scope.names.lookup x ≠ some .cell ∧ F.scope.names.lookup x ≠ some .free
  hd : F.A.handled = none
  bsz : F.base.objs.size ≤ F.L
  below : ∀ b ∈ frs F.outer, b < F.L
theorem Fit.nocell {F : Fm} (h : Fit F) : F.env.cells = [] := h.cells _
structure Slp (F : Fm) (ip : List (Addr × Obj)) (σ : L2.St) (h : Heap) : Prop where
  loc : ∃ m, h.Ns F.L m ∧ ∀ (i : Nat) (x : Str) (v : V), F.N[i]? = some x → σ[i]? = some (some v) → Vis F.scope x → ∃ u, RelV v u ∧ m x = some u
  pin : ∀ p ∈ F.pn ++ ip, h.get? p.1 = some p.2 ∧ F.L < p.1 ∧ ∀ v, p.2.data ≠ .cell v
  len : σ.length = F.N.length
theorem Fm.inv {F : Fm} (hF : Fit F) {s : Shared} {H : Hp} {σ : L2.St} {ip : List (Addr × Obj)} (e0 : Env0 F.P F.w F.K F.mg F.base F.A F.outer s H) (hn : H F.L = none) (hp : ∀ p ∈ F.pn ++ ip, H p.1 = none) (hE : ∀ b ∈ F.E, H b = none ∧ F.L < b ∧ ∃ o, s.heap.get? b = some o ∧ ∀ v, o.data ≠ .cell v) (z : Slp F ip σ s.heap) : Inv (F.X s H) ip σ H s := by
  have nc : ∀ x c, F.env.cells.lookup x ≠ some c := fun x c e => by rw [hF.nocell] at e; cases e
  have hfr : ∀ b, b ∈ frs F.outer → ∃ o, s.heap.get? b = some o := fun b hb => by
    obtain ⟨_, o, ho, _⟩ := e0.funs.mem hb
    exact ⟨o, ho⟩
  have fun2 : ∀ l : List Env, (∀ b ∈ frs l, b < F.L) → s.heap.FunFrames F.base l → (cut F.L s.heap).FunFrames F.base l := by
    intro l
    induction l with
    | nil => intro _ _; trivial
    | cons env r ih =>
      intro hb hl
      obtain ⟨hk, ⟨L, o, hf, hn, ho, hd⟩, hr⟩ := hl
      have e : frs (env :: r) = L :: frs r := by unfold frs; rw [List.filterMap_cons, hf]
      rw [e] at hb
      exact ⟨hk, ⟨L, o, hf, hn, (cut_get (hb L List.mem_cons_self)).trans ho, hd⟩, ih (fun b q => hb b (List.mem_cons_of_mem _ q)) hr⟩
  refine ⟨⟨e0.mod, hF.kind, rfl, rfl, ?_, fun x y c h1 _ => absurd h1 (nc x c), fun x hx => ?_, fun x c _ h => absurd h (nc x c), fun _ => hF.hd, Around.frames_deeper e0.frames, .inr ⟨rfl, rfl⟩, fun b q => (nomatch q), fun b o e => ?_, ?_, fun b o e q => (nomatch q), fun b q => (nomatch q), fun2 F.outer hF.below e0.funs, e0.frf⟩,
    rfl, e0.bare, ⟨fun b o e n _ _ => (cut_of e).2, fun b o e n _ _ => ⟨o.slots, (cut_of e).2⟩, fun b o e n _ => n, fun b o e _ => ⟨o, (cut_of e).2⟩, fun _ _ q => q, fun _ _ _ q => q, fun b ps q => ⟨#[], by rw [show H b = some (.tbl ps) from q]; simp⟩⟩, ?_, fun x c e => absurd e (nc x c), hn, fun x c e => absurd e (nc x c), fun p q => ?_, e0.hok, z.len⟩
  · show (cut F.L s.heap).objs.size ≤ F.L
    rw [cut_size]; exact Nat.le_refl _
  · rcases hx with q | q
    · exact absurd q (hF.plain x).1
    · exact absurd q (hF.plain x).2
  · have hl : b < F.L := Nat.lt_of_lt_of_le (Heap.lt_size e) hF.bsz
    exact ⟨(cut_get hl).trans (e0.bs b o e).1, (e0.bs b o e).2⟩
  · show F.base.objs.size ≤ (cut F.L s.heap).objs.size
    rw [cut_size]
    exact hF.bsz
  · obtain ⟨m, hm, hl⟩ := z.loc
    refine ⟨m, hm, fun i x v e1 e2 e3 => ?_⟩
    obtain ⟨u, r, q⟩ := hl i x v e1 e2 e3
    refine ⟨u, r, .inl ⟨?_, q⟩⟩
    rcases e3 with k | k | k
    · exact k
    · exact absurd k (hF.plain x).1
    · exact absurd k (hF.plain x).2
  · have pr : p ∈ F.pn ++ ip → s.heap.get? p.1 = some p.2 ∧ H p.1 = none ∧ p.1 ≠ F.L ∧ p.1 ∉ frs F.outer ∧ ∀ v, p.2.data ≠ .cell v := fun q => by
      obtain ⟨h1, h2, h3⟩ := z.pin p q
      exact ⟨h1, hp p q, Nat.ne_of_gt h2, fun hm => absurd (hF.below _ hm) (Nat.not_lt.mpr (Nat.le_of_lt h2)), h3⟩
    rcases List.mem_append.mp q with q | q
    · rcases List.mem_append.mp q with q | q
      · exact pr (List.mem_append_left _ q)
      · obtain ⟨h1, h2⟩ := Fm.of_pe q
        obtain ⟨h3, h4, o, h5, h6⟩ := hE _ h1
        rw [h5] at h2
        have h2 : p.2 = o := h2
        exact ⟨by rw [h2]; exact h5, h3, Nat.ne_of_gt h4, fun hm => absurd (hF.below _ hm) (Nat.not_lt.mpr (Nat.le_of_lt h4)), by rw [h2]; exact h6⟩
    · exact pr (List.mem_append_right _ q)
theorem Fm.slp {F : Fm} {s₀ s : Shared} {Hr H : Hp} {σ : L2.St} {ip : List (Addr × Obj)} (hF : Fit F) (I : Inv (F.X s₀ Hr) ip σ H s) (hip : ∀ p ∈ F.pn ++ ip, F.L < p.1) : Slp F ip σ s.heap := by
  obtain ⟨m, hm, hl⟩ := I.loc
  refine ⟨⟨m, hm, fun i x v e1 e2 e3 => ?_⟩, fun p q => ?_, I.len⟩
  · obtain ⟨u, r, q⟩ := hl i x v e1 e2 e3
    refine ⟨u, r, ?_⟩
    rcases q with ⟨_, q⟩ | ⟨k, _⟩
    · exact q
    · rcases k with k | k
      · exact absurd k (hF.plain x).1
      · exact absurd k (hF.plain x).2
  · have q2 : p ∈ (F.pn ++ F.pe s₀) ++ ip := (List.mem_append.mp q).elim (fun z => List.mem_append_left _ (List.mem_append_left _ z)) fun z => List.mem_append_right _ z
    obtain ⟨h1, _, _, _, h5⟩ := I.pin p q2
    exact ⟨h1, hip p q, h5⟩
theorem Slp.keep {F : Fm} {ip : List (Addr × Obj)} {σ : L2.St} {h h' : Heap} {oL : Obj} (z : Slp F ip σ h) (e : h.get? F.L = some oL) (e' : h'.get? F.L = some oL) (hp : ∀ p ∈ F.pn ++ ip, h'.get? p.1 = some p.2) : Slp F ip σ h' := by
  obtain ⟨m, ⟨o, es, ep, ho, r⟩, hl⟩ := z.loc
  rw [e] at ho; cases ho
  exact ⟨⟨m, ⟨oL, es, ep, e', r⟩, hl⟩, fun p q => ⟨hp p q, (z.pin p q).2⟩, z.len⟩
structure Bel (X : Cx) (pins : List (Addr × Obj)) (L : Addr) (E T : List Addr) : Prop where
  s0 : ∀ b, L ≤ b → b < X.s_0.heap.objs.size → b ∈ X.ex ∨ b ∈ T
  loc : (X.env.locals < L ∧ E = []) ∨ (L < X.env.locals ∧ E = [X.env.locals])
  cell : ∀ x c, X.env.cells.lookup x = some c → c < L
  pin : ∀ p ∈ X.pn ++ pins, p.1 < L
  fs : ∀ b ∈ X.fs, b < L
theorem Bel.of {X : Cx} {pins : List (Addr × Obj)} {σ : L2.St} {H : Hp} {s : Shared} (I : Inv X pins σ H s) : Bel X pins s.heap.objs.size [] [] where
  s0 := fun b h1 h2 => absurd (Nat.lt_of_lt_of_le h2 I.sz) (Nat.not_lt.mpr h1)
  loc := .inl ⟨I.lt, rfl⟩
  cell := fun x c e => (I.cell x c e).choose_spec.lt
  pin := fun p q => Heap.lt_size (I.pin p q).1
  fs := fun b hb => by
    obtain ⟨_, o, ho, _⟩ := I.ok.funs.mem hb
    exact Nat.lt_of_lt_of_le (Heap.lt_size ho) I.sz
theorem Bel.own {X : Cx} {pins : List (Addr × Obj)} {L : Addr} {E T : List Addr} (b : Bel X pins L E T) {σ : L2.St} {H : Hp} {s : Shared} (I : Inv X pins σ H s) : ∀ x ∈ E, H x = none ∧ L < x ∧ ∃ o, s.heap.get? x = some o ∧ ∀ v, o.data ≠ .cell v := fun x hx => by
  rcases b.loc with ⟨_, e⟩ | ⟨h, e⟩
  · rw [e] at hx; exact nomatch hx
  · rw [e] at hx
    rw [List.mem_singleton.mp hx]
    obtain ⟨m, ⟨o, es, ep, ho, hd, _⟩, _⟩ := I.loc
    exact ⟨I.free, h, o, ho, fun v q => by rw [hd] at q; cases q⟩
theorem Bel.ne {X : Cx} {pins : List (Addr × Obj)} {L : Addr} {E T : List Addr} (b : Bel X pins L E T) {x : Addr} (h : L ≤ x) (hx : x ∉ E) : x ≠ X.env.locals := fun e => by
  rcases b.loc with ⟨q, _⟩ | ⟨_, q⟩
  · rw [e] at h; exact absurd q (Nat.not_lt.mpr h)
  · exact hx (by rw [q, e]; exact List.mem_singleton.mpr rfl)
theorem Inv.gens {X : Cx} {pins : List (Addr × Obj)} {σ : L2.St} {H : Hp} {s : Shared} (I : Inv X pins σ H s) {G : Array GenState} (hG : AllBare G) : Inv X pins σ H { s with gens := G } :=
  ⟨I.ok, I.os, hG, I.base, I.loc, I.cell, I.free, I.freeC, I.pin, I.hok, I.len⟩
structure Of (F : Fm) (X : Cx) : Prop where
  P : F.P = X.prog
  w : F.w = X.w
  K : F.K = X.K
  mg : F.mg = X.mg
  base : F.base = X.base
  outer : F.outer = X.stack
theorem Inv.slept {X : Cx} {F : Fm} {pins ip : List (Addr × Obj)} {T : List Addr} {τ σ : L2.St} {Hr H : Hp} {s₀ s : Shared} (hO : Of F X) (hb : Bel X pins F.L F.E T) (Ic : Inv X pins τ Hr s₀) (hT : ∀ b ∈ T, (∃ u, Hr b = some u) ∧ ∃ xs, H b = some (.lst xs)) (I : Inv (F.X s₀ Hr) ip σ H s) : Inv X pins τ H s := by
  have hpE : ∀ b ∈ F.E, ∃ o, s₀.heap.get? b = some o ∧ s.heap.get? b = some o ∧ H b = none := fun b hb2 => by
    obtain ⟨_, _, o, ho, _⟩ := hb.own Ic b hb2
    have q := I.pin _ (List.mem_append_left _ (List.mem_append_right _ (Fm.mem_pe (s := s₀) hb2)))
    rw [ho] at q
    exact ⟨o, ho, q.1, q.2.1⟩
  have hU0 := I.base
  have hos : s.os = s₀.os := I.os
  have hok := I.hok
  have hbare := I.bare
  obtain ⟨P, w, K, mg, base, N, qual, scope, f, cd, A, outer, pn, L, E⟩ := F
  obtain ⟨rfl, rfl, rfl, rfl, rfl, rfl⟩ := hO
  obtain ⟨hh, g, d, t, o⟩ := s
  have ho : o = s₀.os := hos
  subst ho
  have hU : Un (frs X.stack) [] Hr H (cut L s₀.heap) hh := hU0
  have hok : HOk X.prog X.w H hh := hok
  have nx : ∀ b : Addr, b ∉ ([] : List Addr) := fun b q => nomatch q
  have any : ∀ b o, b < L → s₀.heap.get? b = some o → Hr b = none → ∃ sl, hh.get? b = some { o with slots := sl } := fun b o hl e n => hU.any ((cut_get hl).trans e) n (nx b)
  have hlt : ∀ b, b ∉ (List.range s₀.heap.objs.size).filter (fun b => decide (L ≤ b ∧ b ∉ E ∧ b ∉ T)) → b < s₀.heap.objs.size → b < L ∨ b ∈ E ∨ b ∈ T := fun b hc hs => by
    by_cases h1 : b < L
    · exact .inl h1
    by_cases h2 : b ∈ E
    · exact .inr (.inl h2)
    by_cases h3 : b ∈ T
    · exact .inr (.inr h3)
    exact absurd (List.mem_filter.mpr ⟨List.mem_range.mpr hs, decide_eq_true ⟨Nat.not_lt.mp h1, h2, h3⟩⟩) hc
  refine Ic.step (ch := (List.range s₀.heap.objs.size).filter (fun b => decide (L ≤ b ∧ b ∉ E ∧ b ∉ T))) (fun b hm => ?_) (fun b o hLb hfs hc e n => ?_) (fun b o _ hfs hc e n => any b o (hb.fs b hfs) e n) (fun b o hc e n => ?_) (fun b o hc e => ?_) hU.tups hU.frzs hU.tbls (fun m' hm => ?_) hok hbare
  · obtain ⟨q1, q2, q3⟩ := of_decide_eq_true (List.mem_filter.mp hm).2
    refine ⟨?_, hb.ne q1 q2, fun x c e => Nat.ne_of_lt (Nat.lt_of_lt_of_le (hb.cell x c e) q1), fun p hp => Nat.ne_of_lt (Nat.lt_of_lt_of_le (hb.pin p hp) q1)⟩
    by_cases h : b < X.s_0.heap.objs.size
    · rcases hb.s0 b q1 h with z | z
      · exact .inl z
      · exact absurd z q3
    · exact .inr (Nat.not_lt.mp h)
  · rcases hlt b hc (Heap.lt_size e) with hl | hl | hl
    · refine hU.keep b o ((cut_get hl).trans e) n (fun q => ?_) (nx b)
      rcases List.mem_cons.mp (Ic.stkSub b q) with z | z
      · exact hLb z
      · exact hfs z
    · obtain ⟨o', h1, h2, _⟩ := hpE b hl
      rw [e] at h1; cases h1
      exact h2
    · obtain ⟨⟨u, h1⟩, _⟩ := hT b hl
      rw [n] at h1; cases h1
  · rcases hlt b hc (Heap.lt_size e) with hl | hl | hl
    · exact hU.free b o ((cut_get hl).trans e) n (nx b)
    · obtain ⟨_, _, _, h3⟩ := hpE b hl
      exact h3
    · obtain ⟨⟨u, h1⟩, _⟩ := hT b hl
      rw [n] at h1; cases h1
  · rcases hlt b hc (Heap.lt_size e) with hl | hl | hl
    · exact hU.there b o ((cut_get hl).trans e) (nx b)
    · obtain ⟨o', _, h2, _⟩ := hpE b hl
      exact ⟨o', h2⟩
    · obtain ⟨_, xs, h2⟩ := hT b hl
      obtain ⟨_, its, n, _, h3⟩ := hok b _ h2
      exact ⟨_, h3⟩
  · obtain ⟨o', es, ep, eL, r⟩ := hm
    rcases hb.loc with ⟨hl, _⟩ | ⟨_, he⟩
    · obtain ⟨sl, h1⟩ := any _ o' hl eL Ic.free
      exact ⟨_, es, ep, h1, r⟩
    · obtain ⟨o2, h1, h2, _⟩ := hpE X.env.locals (by show X.env.locals ∈ E; rw [show E = [X.env.locals] from he]; exact List.mem_singleton.mpr rfl)
      rw [eL] at h1; cases h1
      exact ⟨_, es, ep, h2, r⟩
theorem Inv.slept2 {X : Cx} {F : Fm} {pins ip : List (Addr × Obj)} {T : List Addr} {τ σ : L2.St} {H : Hp} {s : Shared} {oL : Obj} (hb : Bel X pins F.L F.E T) (Ic : Inv X pins τ H s) (z : Slp F ip σ s.heap) (hL : s.heap.get? F.L = some oL) (hn : H F.L = none) (hp : ∀ p ∈ F.pn ++ ip, H p.1 = none ∧ p.1 ∉ F.E) : Inv X (pins ++ (F.L, oL) :: (F.pn ++ ip)) τ H s :=
  Ic.pins_of fun p q => by
    rcases List.mem_append.mp q with q | q
    · exact Ic.pin p (List.mem_append_right _ q)
    · have big : F.L ≤ p.1 → p.1 ∉ X.fs := fun h hm => absurd (hb.fs _ hm) (Nat.not_lt.mpr h)
      rcases List.mem_cons.mp q with q | q
      · subst q
        obtain ⟨m, ⟨o, es, ep, ho, hd, _⟩, _⟩ := z.loc
        rw [hL] at ho; cases ho
        refine ⟨hL, hn, hb.ne (Nat.le_refl _) (fun h => ?_), big (Nat.le_refl _), fun v y => by rw [hd] at y; cases y⟩
        exact absurd (hb.own Ic _ h).2.1 (Nat.lt_irrefl _)
      · obtain ⟨h1, h2, h3⟩ := z.pin p q
        exact ⟨h1, (hp p q).1, hb.ne (Nat.le_of_lt h2) (hp p q).2, big (Nat.le_of_lt h2), h3⟩
end Mu

namespace Mu
open PySem PySem.Spec PyProof.Rows L2 He Evl StX GenW
structure Gh where
  ys : List V
  τ : L2.St
  Hr : Hp
abbrev YL := Gh → V → Hp → (L2.St → Hp → Prop) → Prop
abbrev QL := Gh → Hp → Prop
structure G2E where
  nx : Gh → L2.St → Hp → Prop
  rt : Gh → VK
  bk : Gh → L2.St → Hp → Prop := fun _ _ _ => False
  ct : Gh → L2.St → Hp → Prop := fun _ _ _ => False
abbrev TG2 := YL → G2E → Gh → L2.St → Hp → Prop
abbrev GJ := Gh → Shared → Prop
def Y2 (F : Fm) (J : GJ) (yl : YL) : Protocol := fun n s₀ v s kap =>
  ∃ γ x ip σ H C, n + 1 + γ.ys.length = sizeLine ∧ J γ s₀ ∧ RelV x v ∧ Inv (F.X s₀ γ.Hr) ip σ H s ∧ (∀ p ∈ F.pn ++ ip, F.L < p.1 ∧ p.1 ∉ F.E) ∧ yl γ x H C ∧
    ∀ s' τ' H', C τ' H' → J ⟨γ.ys ++ [x], τ', H'⟩ s' → Inv (F.X s' H') ip σ H' s' → kap (.send .none) s'
def R2 (F : Fm) (J : GJ) (Q : QL) : GenEnd := fun n s₀ r s => match r with
  | .ok (.ret u) => ∃ γ ip σ H, J γ s₀ ∧ Inv (F.X s₀ γ.Hr) ip σ H s ∧ u = .none ∧ Q γ H
  | _ => False
def SP2 (F : Fm) (ip : List (Addr × Obj)) (D : G2E) (γ : Gh) (s₀ : Shared) (f : Flow) (s : Shared) : Prop :=
  match f with
  | .next => ∃ σ H, Inv (F.X s₀ γ.Hr) ip σ H s ∧ D.nx γ σ H
  | .brk => ∃ σ H, Inv (F.X s₀ γ.Hr) ip σ H s ∧ D.bk γ σ H
  | .cont => ∃ σ H, Inv (F.X s₀ γ.Hr) ip σ H s ∧ D.ct γ σ H
  | .ret u => ∃ v σ H, Inv (F.X s₀ γ.Hr) ip σ H s ∧ RelV v u ∧ D.rt γ v H
structure C2 (F : Fm) (ip : List (Addr × Obj)) (A : Around) (c : Code) (fs : List Frame) (gd : Bool → Bool) : Prop where
  ip : ∀ p ∈ F.pn ++ ip, F.L < p.1 ∧ p.1 ∉ F.E
  over : A.over c fs = F.A.deeper F.env
  split : splitAtGen fs = none
  guard : fs.any Frame.guarded = false
  gd : gd false = false
abbrev SegG (F : Fm) (J : GJ) (yl : YL) (A : Around) (R : GenEnd) (n : Nat) (s₀ : Shared) (c : Code) (t : Sem PySem.Fin) (fs : List Frame) (s : Shared) : Prop := Seg (model F.P F.w) A R (Y2 F J yl) n s₀ c t fs s
def K2 (F : Fm) (J : GJ) (yl : YL) (ip : List (Addr × Obj)) (A : Around) (R : GenEnd) (c : Code) (fs : List Frame) (K : Flow → Sem PySem.Fin) (D : G2E) : Prop :=
  ∀ (n : Nat) (γ : Gh) (s₀ s : Shared) (f : Flow), n + γ.ys.length = sizeLine → J γ s₀ → SP2 F ip D γ s₀ f s → SegG F J yl A R n s₀ c (K f) fs s
structure G2 (F : Fm) (st : Stmt) (t : TG2) : Prop where
  run : ∀ (J : GJ) (yl : YL) (A : Around) (ip : List (Addr × Obj)) (R : GenEnd) (n : Nat) (γ : Gh) (s₀ : Shared) (c : Code) (fs : List Frame) (K : Flow → Sem PySem.Fin) (Jx : Value → Sem PySem.Fin) (gd : Bool → Bool) (lv : List Value → List Value) (s : Shared) (σ : L2.St) (H : Hp) (D : G2E),
    C2 F ip A c fs gd → n + γ.ys.length = sizeLine → K2 F J yl ip A R c fs K D → J γ s₀ → Inv (F.X s₀ γ.Hr) ip σ H s → t yl D γ σ H → SegG F J yl A R n s₀ c ((exec st F.env).wrap K Jx gd lv) fs s
structure G2s (F : Fm) (st : List Stmt) (t : TG2) : Prop where
  run : ∀ (J : GJ) (yl : YL) (A : Around) (ip : List (Addr × Obj)) (R : GenEnd) (n : Nat) (γ : Gh) (s₀ : Shared) (c : Code) (fs : List Frame) (K : Flow → Sem PySem.Fin) (Jx : Value → Sem PySem.Fin) (gd : Bool → Bool) (lv : List Value → List Value) (s : Shared) (σ : L2.St) (H : Hp) (D : G2E),
    C2 F ip A c fs gd → n + γ.ys.length = sizeLine → K2 F J yl ip A R c fs K D → J γ s₀ → Inv (F.X s₀ γ.Hr) ip σ H s → t yl D γ σ H → SegG F J yl A R n s₀ c ((execs st F.env).wrap K Jx gd lv) fs s
def G2E.at_ (D : G2E) (γ : Gh) : Ends := { nx := D.nx γ, rt := D.rt γ, bk := D.bk γ, ct := D.ct γ }
def tP2 (t : TS) : TG2 := fun _ D γ σ H => t (D.at_ γ) σ H
def t02 : TG2 := fun _ D γ σ H => D.nx γ σ H
def tThen2 (t u : TG2) : TG2 := fun yl D γ σ H => t yl { D with nx := fun γ' σ' H' => u yl D γ' σ' H' } γ σ H
def tIf2 (c : TT) (t u : TG2) : TG2 := fun yl D γ σ H => c σ H fun b H1 => if b = true then t yl D γ σ H1 else u yl D γ σ H1
def tY2 (te : TE) : TG2 := fun yl D γ σ H => γ.ys.length < sizeLine ∧ te σ H fun x H1 => yl γ x H1 fun τ' H2 => D.nx ⟨γ.ys ++ [x], τ', H2⟩ σ H2
def tWh2 (c : TT) (tb : TG2) : TG2 := fun yl D γ σ H => ∃ W : Nat → Gh → L2.St → Hp → Prop, (∃ m, W m γ σ H) ∧ ∀ m γ σ H, W m γ σ H →
  c σ H fun b H1 => if b = true then ∃ N : Gh → L2.St → Hp → Prop, (∀ γ' σ' H', N γ' σ' H' → ∃ m', m' < m ∧ W m' γ' σ' H') ∧ tb yl { D with nx := N, ct := N, bk := D.nx } γ σ H1 else D.nx γ σ H1
section
variable {F : Fm} {st : Stmt} {rest body : List Stmt} {test e : Expr} {pos yp : Pos} {ts : TS} {tc : TT} {te : TE} {t u : TG2} {a b : List Stmt}
theorem sp2_of {ip : List (Addr × Obj)} {D : G2E} {γ : Gh} {s₀ s : Shared} {f : Flow} (h : SP (F.X s₀ γ.Hr) ip (D.at_ γ) f s) : SP2 F ip D γ s₀ f s := by
  cases f with
  | next => exact h
  | brk => exact h
  | cont => exact h
  | ret u => obtain ⟨v, σ, H, I, r, q⟩ := h; exact ⟨v, σ, H, I, r, q⟩
theorem g2_ps (h : ∀ s H, PS (F.X s H) st ts) : G2 F st (tP2 ts) := by
  refine ⟨fun J yl A ip R n γ s₀ c fs K Jx gd lv s σ H D g hn k hJ I ht => seg_wrap ?_⟩
  rw [g.over]
  exact wpAny_mono ((h s₀ γ.Hr).run ip s σ H (D.at_ γ) I ht) (fun f s' hs => k n γ s₀ s' f hn hJ (sp2_of hs)) fun _ _ z => z.elim
theorem g2s_nil : G2s F [] t02 := ⟨fun J yl A ip R n γ s₀ c fs K Jx gd lv s σ H D g hn k hJ I ht => seg_execs_nil (k n γ s₀ s .next hn hJ ⟨σ, H, I, ht⟩)⟩
theorem g2s_cons (a : G2 F st t) (b : G2s F rest u) : G2s F (st :: rest) (tThen2 t u) := by
  refine ⟨fun J yl A ip R n γ s₀ c fs K Jx gd lv s σ H D g hn k hJ I ht => seg_execs_cons ?_⟩
  refine a.run J yl A ip R n γ s₀ c fs _ Jx gd lv s σ H { D with nx := fun γ' σ' H' => u yl D γ' σ' H' } g hn (fun n' γ' s₀' s' f hn' hJ' hs => ?_) hJ I ht
  cases f with
  | next =>
    obtain ⟨σ', H', I', q⟩ := hs
    exact b.run J yl A ip R n' γ' s₀' c fs K Jx gd lv s' σ' H' D g hn' k hJ' I' q
  | brk => exact k n' γ' s₀' s' .brk hn' hJ' hs
  | cont => exact k n' γ' s₀' s' .cont hn' hJ' hs
  | ret u => exact k n' γ' s₀' s' (.ret u) hn' hJ' hs
theorem g2_if (hc : ∀ s H, PT (F.X s H) test tc) (ha : G2s F a t) (hb : G2s F b u) : G2 F (.If test a b pos) (tIf2 tc t u) := by
  refine ⟨fun J yl A ip R n γ s₀ c fs K Jx gd lv s σ H D g hn k hJ I ht => ?_⟩
  rw [exec_If]
  refine seg_bind_wrap (wpAny_standAt ?_)
  refine seg_bind_wrap ?_
  rw [g.over]
  refine wpAny_mono ((hc s₀ γ.Hr).run ip s σ H _ I ht) (fun d s1 hd => ?_) fun _ _ z => z.elim
  obtain ⟨H1, I1, q1⟩ := hd
  cases d with
  | true => exact ha.run J yl A ip R n γ s₀ c fs K Jx gd lv s1 σ H1 D g hn k hJ I1 q1
  | false => exact hb.run J yl A ip R n γ s₀ c fs K Jx gd lv s1 σ H1 D g hn k hJ I1 q1
theorem g2_yield (he : ∀ s H, PE (F.X s H) e te) (hco : F.env.scope.isCoroutine = false := by rfl) (hi : interactive F.env = false := by rfl) : G2 F (.Expr (.Yield (some e) yp) pos) (tY2 te) := by
  refine ⟨fun J yl A ip R n γ s₀ c fs K Jx gd lv s σ H D g hn k hJ I ht => ?_⟩
  obtain ⟨hlt, ht⟩ := ht
  obtain ⟨n, rfl⟩ : ∃ m, n = m + 1 := ⟨n - 1, by omega⟩
  refine seg_Expr_Yield g.split g.gd g.guard ?_ hco hi
  rw [g.over]
  refine wpAny_mono ((he s₀ γ.Hr).run ip s σ H _ I ht) (fun v s' hv => ?_) fun _ _ z => z.elim
  obtain ⟨x, H1, I1, rv, q⟩ := hv
  intro kap hk
  refine ⟨γ, x, ip, σ, H1, _, hn, hJ, rv, I1, g.ip, q, fun s2 τ' H' hC hJ' I' => hk .none s2 ?_⟩
  refine k n ⟨γ.ys ++ [x], τ', H'⟩ s2 s2 .next ?_ hJ' ⟨σ, H', I', hC⟩
  show n + (γ.ys ++ [x]).length = _
  rw [List.length_append, List.length_singleton]; omega
theorem c2_loop {ip : List (Addr × Obj)} {A : Around} {c c' : Code} {fs : List Frame} {gd : Bool → Bool} {k : Result → Sem PySem.Fin} {l kp : List Value} {p : Pos} (g : C2 F ip A c fs gd) (hw : c'.weight = 0) (hu : c'.cUnits = 0) : C2 F ip A c' (.ret k none (gd false) l c p kp :: fs) id where
  ip := g.ip
  over := (over_loop hw hu).trans g.over
  split := by
    show (splitAtGen fs).map _ = none
    rw [g.split]; rfl
  guard := by
    show (gd false || fs.any Frame.guarded) = false
    rw [g.gd, g.guard]; rfl
  gd := rfl
theorem g2_while {tb : TG2} (hc : ∀ s H, PT (F.X s H) test tc) (hb : G2s F body tb) : G2 F (.While test body [] pos) (tWh2 tc tb) := by
  refine ⟨fun J yl A ip R n γ s₀ c fs K Jx gd lv s σ H D g hn k hJ I ht => ?_⟩
  obtain ⟨W, ⟨m0, w0⟩, turn⟩ := ht
  refine seg_While fun p => ?_
  have gl := fun (kk : Result → Sem PySem.Fin) => c2_loop (k := kk) (c' := .whileLoop test body [] F.env) (l := lv []) (kp := []) (p := p) g rfl rfl
  have loop : ∀ (m n : Nat) (γ : Gh) (s₀ s : Shared) (σ : L2.St) (H : Hp), n + γ.ys.length = sizeLine → W m γ σ H → J γ s₀ → Inv (F.X s₀ γ.Hr) ip σ H s →
      SegG F J yl A R n s₀ (.whileLoop test body [] F.env) ((model F.P F.w).den (.whileLoop test body [] F.env))
        (.ret (fun r => ((match r with | .ok f => (.pure f : Sem Flow) | .error e => .raise e).onRaise (cameBack F.env)).wrap K Jx gd lv) none (gd false) (lv []) c p [] :: fs) s := by
    intro m
    induction m using Nat.strongRecOn with
    | ind m ih =>
      intro n γ s₀ s σ H hn w hJ I
      refine seg_whileLoop ?_
      rw [(gl _).over]
      refine wpAny_mono ((hc s₀ γ.Hr).run ip s σ H _ I (turn m γ σ H w)) (fun b s' hb' => ?_) fun _ _ z => z.elim
      obtain ⟨H2, I2, q2⟩ := hb'
      cases b with
      | true =>
        obtain ⟨N, hN, q2⟩ := q2
        rw [if_pos rfl]
        refine hb.run J yl A ip R n γ s₀ _ _ _ _ id id s' σ H2 { D with nx := N, ct := N, bk := D.nx } (gl _) hn (fun n' γ' s₀' s3 f hn' hJ' hs => ?_) hJ I2 q2
        cases f with
        | next =>
          obtain ⟨σ3, H3, I3, n3⟩ := hs
          obtain ⟨m', hm, w3⟩ := hN γ' σ3 H3 n3
          exact seg_again rfl (ih m' hm n' γ' s₀' s3 σ3 H3 hn' w3 hJ' I3)
        | cont =>
          obtain ⟨σ3, H3, I3, n3⟩ := hs
          obtain ⟨m', hm, w3⟩ := hN γ' σ3 H3 n3
          exact seg_again rfl (ih m' hm n' γ' s₀' s3 σ3 H3 hn' w3 hJ' I3)
        | brk => exact seg_leaf (.ok .next) (k n' γ' s₀' s3 .next hn' hJ' hs)
        | ret v => exact seg_leaf (.ok (.ret v)) (k n' γ' s₀' s3 (.ret v) hn' hJ' hs)
      | false =>
        rw [if_neg Bool.false_ne_true]
        refine seg_execs_nil ?_
        exact seg_leaf (.ok .next) (k n γ s₀ s' .next hn hJ ⟨σ, H2, I2, q2⟩)
  exact loop m0 n γ s₀ s σ H hn w0 hJ I
end
section
variable {M : Model} {A : Around} {R : GenEnd} {Y : Protocol} {n : Nat} {s₀ s : Shared} {c : Code} {fs : List Frame} {env : Env} {K : Flow → Sem PySem.Fin} {Jx : Value → Sem PySem.Fin} {gd : Bool → Bool} {lv : List Value → List Value}
end
section
variable {prog : Program} {w : World} {A : Around} {R : GenEnd} {Y : Protocol} {n : Nat} {s₀ s : Shared} {c : Code} {fs : List Frame} {env : Env}
end
section
variable {F : Fm} {body : List Stmt} {pos : Pos}
end
end Mu

namespace Mu
open PySem PySem.Spec PyProof.Rows L2 He Evl StX GenW
section
variable {M : Model} {A : Around} {R : GenEnd} {Y : Protocol} {n g : Nat} {E : Value → Shared → Prop} {s : Shared} {gs : GenState}
abbrev Onward (M : Model) (A : Around) (R : GenEnd) (Y : Protocol) (n : Nat) (gs : GenState) : Resume → Shared → Prop := fun r s => match n with
  | 0 => False
  | m + 1 => gs.Goes M A R Y m r s
theorem resume_nap {r : Resume} {l : List Value} {α : Type} {k : GenResult → Sem α} {Q : α → Shared → Prop} (hg : s.gens[g]? = some gs) (hgo : gs.Goes M A R Y n r (s.setGen g .running))
    (hR : ∀ x s₁, R n (s.setGen g .running) x s₁ → wpAny M A (k (End.ret x).result) Q E (s₁.setGen g .finished))
    (hY : ∀ v s₁ gs', gs'.bare = true → Nap gs' → Y (n - 1) (s.setGen g .running) v s₁ (Onward M A R Y n gs') → wpAny M A (k (.yielded v)) Q E (s₁.setGen g gs')) : wpAny M A (.resume g r l k) Q E s := by
  intro Γ p hΓ
  rw [Sem.wp_resume]
  have turn : ∀ c t fs p1, Seg M A R Y n (s.setGen g .running) c t fs (s.setGen g .running) → ∃ e₁ s₁, Runs M (Γ.wake c p) p1 t fs (s.setGen g .running) e₁ s₁ ∧ e₁.quiet = true ∧ Sem.wp M Γ (k e₁.result) (fun a _ s' => Q a s') (fun e _ s' => E e s') p (s₁.setGen g e₁.genState) := fun c t fs p1 hs => by
    obtain ⟨e₁, s₁, hr, he⟩ := seg_iff.mp hs (Γ.wake c p) p1 rfl (hΓ.wake c p)
    refine ⟨e₁, s₁, hr, ?_⟩
    cases e₁ with
    | ret x => exact ⟨rfl, hR x s₁ he Γ p hΓ⟩
    | susp v g₀ l₀ k₀ c₀ p₀ fs₀ =>
      obtain ⟨hq, hy⟩ := he
      refine ⟨hq, hY v s₁ _ (End.bare_of_quiet hq) trivial ?_ Γ p hΓ⟩
      cases n with
      | zero => exact hy
      | succ m => exact hy
  cases gs with
  | fresh c =>
    obtain ⟨rfl, hs⟩ := hgo
    obtain ⟨e₁, s₁, a1, a2, a3⟩ := turn c _ [] p hs
    refine ⟨e₁.result, s₁.setGen g e₁.genState, ?_, a3⟩
    unfold Wakes
    rw [hg]
    exact ⟨e₁, s₁, a1, a2, rfl, rfl⟩
  | suspended k₀ l₀ c₀ p₀ fs₀ cl =>
    obtain ⟨e₁, s₁, a1, a2, a3⟩ := turn c₀ _ fs₀ p₀ hgo
    refine ⟨e₁.result, s₁.setGen g e₁.genState, ?_, a3⟩
    unfold Wakes
    rw [hg]
    exact ⟨e₁, s₁, a1, a2, rfl, rfl⟩
  | running => exact False.elim hgo
  | finished => exact False.elim hgo
end
section
variable {prog : Program} {w : World} {A : Around} {E : Value → Shared → Prop} {s : Shared} {F : Fm} {J : GJ} {yl : YL} {QL : QL}
theorem next_nap {a : Addr} {g n : Nat} {gs : GenState} {Q : Option Value → Shared → Prop} (hh : A.handled = none) (hl : s.heap.NoLimit) (hroom : A.depth < recursionLimit) (hg : s.heap.IsGen a g) (hgs : s.gens[g]? = some gs)
    (hgo : gs.Goes (model prog w) A.in1 (R2 F J QL) (Y2 F J yl) n (.send .none) (s.setGen g .running))
    (hY : ∀ v s₁ gs', gs'.bare = true → Nap gs' → Y2 F J yl (n - 1) (s.setGen g .running) v s₁ (Onward (model prog w) A.in1 (R2 F J QL) (Y2 F J yl) n gs') → Q (some v) (s₁.setGen g gs'))
    (hP : ∀ s₁, R2 F J QL n (s.setGen g .running) (.ok (.ret .none)) s₁ → ∀ h', (∀ b o, s₁.heap.get? b = some o → h'.get? b = some o) → Q none { s₁.setGen g .finished with heap := h' }) :
    wpAny (model prog w) A (pyNext (.ref a)) Q E s := by
  unfold pyNext
  refine wpAny_bind (wpAny_attempt (wpAny_callSpecial?_slot (name := Str.ofString "__next__") hg.typeIs slot_gen_next (wpAny_call_entry slot_gen_next hg.typeIs entry_gen_next ?_ (args_gen_next _))))
  show wpAny _ A.in1 (Builtin.Generator.genWake (.ref a) (.send .none)) _ _ s
  unfold Builtin.Generator.genWake
  refine wpAny_bind (wpAny_holding (wpAny_genNumber hg (wpAny_bind (wpAny_genState hgs ?_))))
  have stop : ∀ s₁, R2 F J QL n (s.setGen g .running) (.ok (.ret .none)) s₁ → wpAny (model prog w) A.in1 (newExc (.type "StopIteration") []) (fun e s2 => ∃ h', (∀ b o, s₁.heap.get? b = some o → h'.get? b = some o) ∧ s2 = { s₁.setGen g .finished with heap := h' } ∧ s2.TypeIs e "StopIteration" ∧ ∃ x, e = .ref x) (fun _ _ => False) (s₁.setGen g .finished) := fun s₁ hp => by
    simp only [newExc, newTuple]
    refine wpAny_bind (wpAny_newObj_type ?_ (by size_fits))
    refine wpAny_bind (m := firstArgMember _ _) (wpAny_of_eq (a := Value.none) (by first | rfl | (simp only [firstArgMember]; rfl)) ?_)
    refine wpAny_newObj_type ?_ (by size_fits)
    exact ⟨_, fun b o hb => Heap.get?_push_of_some _ (Heap.get?_push_of_some _ hb), rfl, ⟨_, Heap.get?_push_size _ rfl, rfl⟩, _, rfl⟩
  cases gs with
  | running => exact False.elim hgo
  | finished => exact False.elim hgo
  | _ =>
    refine wpAny_bind (wpAny_roomToWake hl hroom ?_)
    show wpAny _ A.in1 (.resume g (.send .none) [] _) _ _ s
    refine resume_nap hgs hgo (fun x s₁ hx => ?_) (fun v s₁ gs' hb hn hv => wpAny_pure ⟨v, rfl, wpAny_pure (hY v s₁ gs' hb hn hv)⟩)
    obtain ⟨u, rfl, rfl⟩ : ∃ u, x = .ok (.ret u) ∧ u = .none := by
      cases x with
      | error e => exact False.elim hx
      | ok f =>
        cases f with
        | ret u => exact ⟨u, rfl, (by obtain ⟨_, _, _, _, _, _, z, _⟩ := hx; exact z)⟩
        | next => exact False.elim hx
        | brk => exact False.elim hx
        | cont => exact False.elim hx
    show wpAny _ A.in1 (newExc (.type "StopIteration") [] >>= _) _ _ _
    refine wpAny_bind (wpAny_mono (stop s₁ hx) (fun e s2 h2 => ?_) fun _ _ z => False.elim z)
    obtain ⟨h', hk, rfl, ht, x, rfl⟩ := h2
    simp only [raiseNew]
    refine wpAny_bind (wpAny_bind (wpAny_handled ?_))
    rw [show A.in1.handled = none from hh]
    refine wpAny_throw ?_
    refine wpAny_bind (wpAny_isInstance (T := "StopIteration") (b := true) ht isSubtype_stop ?_)
    exact wpAny_pure (hP s₁ hx h' hk)
end
end Mu

namespace Mu
open PySem PySem.Spec PyProof.Rows L2 He Evl StX GenW
abbrev SpY := List V → Gh → YL → QL → Prop
structure Made2 (P : Program) (w : World) (K : PySem.W.Frag) (mg : Str → Option Value) (base : Heap) (k : Nat) (outer : List Env) (s : Shared) (pr : Gh → YL → QL → Prop) (s' : Shared) (fm : Around → List Addr → Fm) (a g : Nat) (c : Code) (σ0 : L2.St) : Prop where
  eqs : ∀ A E, (fm A E).P = P ∧ (fm A E).w = w ∧ (fm A E).K = K ∧ (fm A E).mg = mg ∧ (fm A E).base = base ∧ (fm A E).outer = outer ∧ (fm A E).A = A ∧ (fm A E).L = s.heap.objs.size ∧ (fm A E).E = E
  fit : ∀ A E, A.handled = none → Fit (fm A E)
  go : ∀ A E, ∃ go, (a, go) ∈ (fm A E).pn ∧ ∀ h : Heap, h.get? a = some go → h.IsGen a g
  slp : ∀ A E, Slp (fm A E) [] σ0 s'.heap
  new : s'.gens[g]? = some (.fresh c)
  os : s'.os = s.os
  bare : AllBare s'.gens
  keep : ∀ b o, s.heap.get? b = some o → s'.heap.get? b = some o
  run : ∀ A E J yl Q γ s2, (∀ b ∈ E, s'.heap.objs.size ≤ b) → Room k A → γ.ys = [] → J γ s2 → pr γ yl Q → Inv ((fm A E).X s2 γ.Hr) [] σ0 γ.Hr s2 → Seg (model P w) A (R2 (fm A E) J Q) (Y2 (fm A E) J yl) sizeLine s2 c ((model P w).den c) [] s2
structure GnY (P : Program) (w : World) (K : PySem.W.Frag) (mg : Str → Option Value) (base : Heap) (k : Nat) (f : Addr) (fd : FuncData) (ps : List Str) (sp : SpY) : Prop where
  len : ∀ vs γ yl Q, sp vs γ yl Q → vs.length = ps.length
  run : ∀ (A : Around) (outer : List Env) (s : Shared) (H : Hp) (args : Args) (us : List Value) (vs : List V), Room k A → Env0 P w K mg base A outer s H → BindsTo s fd args (ps.zip us) → Vals vs us → vs.length = ps.length →
    codeAny (model P w) A (.call (.ref f) args) (fun r s' => ∃ fm a g c σ0, r = .ok (.ret (.ref a)) ∧ Made2 P w K mg base k outer s (fun γ yl Q => sp vs γ yl Q) s' fm a g c σ0) s
theorem cells_nil : ∀ (names : List (Str × NameKind)) (n : Nat) (acc : List (Str × Addr)), (∀ y ∈ names, y.2 ≠ .cell) → cellsFrom n names acc = acc
  | [], _, _, _ => rfl
  | (x, kd) :: r, n, acc, h => by
    have hk : kd ≠ .cell := h (x, kd) List.mem_cons_self
    have e : (kd == NameKind.cell) = false := by cases kd <;> first | rfl | exact absurd rfl hk
    show (if (kd == .cell) = true then _ else cellsFrom n r acc) = acc
    rw [e, if_neg Bool.false_ne_true]
    exact cells_nil r n acc fun y hy => h y (List.mem_cons_of_mem _ hy)
structure YScope (N P : List Str) (sc : Scope) : Prop where
  g : GScope N P sc
  nc : ∀ y ∈ sc.names, y.2 ≠ .cell
theorem YScope.nd {N P : List Str} {sc : Scope} (S : YScope N P sc) : N.Nodup := S.g.nd
theorem YScope.plain {N P : List Str} {sc : Scope} (S : YScope N P sc) (x : Str) : sc.names.lookup x ≠ some .cell ∧ sc.names.lookup x ≠ some .free :=
  ⟨fun e => S.nc _ (PySem.mem_of_lookup e) rfl, fun e => S.g.nofree _ (PySem.mem_of_lookup e) rfl⟩
theorem gy_of {P : Program} {w : World} {K : PySem.W.Frag} {mg : Str → Option Value} {base : Heap} {k : Nat} {f : Addr} {name qual : Str} {params : Arguments} {body : List Stmt} {scope : Scope} {dV kV doc pm cdv ct oc : Value} {an od : Option Addr}
    {osl : Array (Option Value)} {N ps : List Str} {sp : SpY} (lk : K.lookup f = some ⟨oc, od, .func (PySem.W.fnOf name qual params body scope dV kV doc pm an cdv ct), osl⟩) (hcd : PySem.W.codeIn K cdv qual = true) (S : YScope N ps scope)
    (len : ∀ vs γ yl Q, sp vs γ yl Q → vs.length = ps.length)
    (hbody : ∀ (A : Around) (outer : List Env) (pn : List (Addr × Obj)) (L : Addr) (E : List Addr), Room k (A.deeper (envOfC qual scope L f cdv)) →
      Fit ⟨P, w, K, mg, base, N, qual, scope, f, cdv, A, outer, pn, L, E⟩ → ∃ t, G2s ⟨P, w, K, mg, base, N, qual, scope, f, cdv, A, outer, pn, L, E⟩ body t ∧ ∀ vs γ yl Q, γ.ys = [] → sp vs γ yl Q → t yl { nx := fun γ _ H' => Q γ H', rt := fun γ v H' => v = .non ∧ Q γ H' } γ (start N vs) γ.Hr) :
    GnY P w K mg base (k + 1) f (PySem.W.fnOf name qual params body scope dV kV doc pm an cdv ct) ps sp := by
  refine ⟨len, fun A outer s H args us vs hr e0 hb r hl => ?_⟩
  have KX : K.In s.heap := e0.mod.kin.keeps fun b o e => (e0.bs b o e).1
  have lim : s.heap.NoLimit := e0.mod.nolimit.keeps fun b o e => (e0.bs b o e).1
  have hkind : ∀ y ∈ ps.zip us, scope.names.lookup y.1 = some .local ∨ (scope.names.lookup y.1 = some .cell ∧ ((cellsFrom (s.heap.objs.size + 1) scope.names []).lookup y.1).isSome = true) := fun ⟨n, v⟩ hy =>
    .inl ((S.g.par n (List.of_mem_zip hy).1).resolve_right (S.plain n).1)
  refine codeAny_call_generator hr.depth (KX _ _ lk) rfl S.g.co S.g.gen rfl (PySem.W.codeRec_of KX hcd) (hb _ _ _ _ ?_)
  refine wpAny_newFunctionEnv_cells S.g.kind hkind fun env he s1 x => ?_
  subst he
  obtain ⟨h1, tk, es1, hk1⟩ := x.done
  have lt1 : s.heap.objs.size < s1.heap.objs.size := x.toInCall.ns.lt
  have gen1 : s1.gens = s.gens := by rw [es1]
  refine ⟨lim.keeps x.toInCall.keep, ?_⟩
  have I1 := inv_startG (E := XF0) S.g hr.hd e0 hl r x
  obtain ⟨m, hm, hlk⟩ := I1.loc
  have key : ∀ (go : Obj) (nm qn : Value) (tk2 : Nat), go.cls = .type "generator" → go.data = .fields #[.int s1.gens.size 0, nm, qn] → go.slots = #[] → (∀ h : Heap, (h.push go).get? h.objs.size = some go) → ∃ fm a g c σ0, (Except.ok (.ret (.ref s1.heap.objs.size)) : Result) = .ok (.ret (.ref a)) ∧
      Made2 P w K mg base (k + 1) outer s (fun γ yl Q => sp vs γ yl Q) { s1 with gens := s1.gens.push (.fresh (.func body (envOfC qual scope s.heap.objs.size f cdv))), toks := tk2, heap := s1.heap.push go } fm a g c σ0 := by
    intro go nm qn tk2 hgc hgd hgs hgp
    refine ⟨fun Aw E => ⟨P, w, K, mg, base, N, qual, scope, f, cdv, Aw, outer, [(s1.heap.objs.size, go)], s.heap.objs.size, E⟩, s1.heap.objs.size, s1.gens.size, _, start N vs, rfl, fun _ _ => ⟨rfl, rfl, rfl, rfl, rfl, rfl, rfl, rfl, rfl⟩, fun Aw _ hh => ?_, fun _ _ => ⟨go, List.mem_singleton.mpr rfl, fun h e => ⟨go, nm, qn, e, hgc, hgd, hgs⟩⟩, fun _ _ => ?_, Array.getElem?_push_size .., ?_, AllBare.push (by rw [gen1]; exact e0.bare) rfl, fun b o e => Heap.get?_push_of_some _ (x.toInCall.keep b o e), ?_⟩
    · refine ⟨S.g.kind, fun n => cells_nil _ n [] S.nc, S.plain, hh, e0.bsz, fun b hb2 => ?_⟩
      obtain ⟨_, o, ho, _⟩ := e0.funs.mem hb2
      exact Heap.lt_size ho
    · refine ⟨⟨m, hm.push go, fun i y v e1 e2 e3 => ?_⟩, fun p hp => ?_, I1.len⟩
      · obtain ⟨u, ru, q⟩ := hlk i y v e1 e2 e3
        refine ⟨u, ru, ?_⟩
        rcases q with ⟨_, q⟩ | ⟨kk, _⟩
        · exact q
        · rcases kk with kk | kk
          · exact absurd kk (S.plain y).1
          · exact absurd kk (S.plain y).2
      · rw [List.append_nil] at hp
        rw [List.mem_singleton.mp hp]
        exact ⟨hgp _, lt1, fun v q => by rw [hgd] at q; cases q⟩
    · show s1.os = s.os
      rw [es1]
    · intro Aw E J yl Q γ s2 hE hrw hy hJ hpr I2
      have hF : Fit ⟨P, w, K, mg, base, N, qual, scope, f, cdv, Aw, outer, [(s1.heap.objs.size, go)], s.heap.objs.size, E⟩ := by
        refine ⟨S.g.kind, fun n => cells_nil _ n [] S.nc, S.plain, hrw.hd, e0.bsz, fun b hb2 => ?_⟩
        obtain ⟨_, o, ho, _⟩ := e0.funs.mem hb2
        exact Heap.lt_size ho
      obtain ⟨t, ht, hq⟩ := hbody Aw outer [(s1.heap.objs.size, go)] s.heap.objs.size E (hrw.deeper _) hF
      refine seg_func ?_
      refine ht.run J yl Aw [] _ sizeLine γ s2 _ [] _ _ id id s2 (start N vs) γ.Hr _ ⟨fun p hp => ?_, over_func, rfl, rfl, rfl⟩ (by rw [hy]; rfl) (fun n γ' s₀ s' fl hn hJ' hs => ?_) hJ I2 (hq vs γ yl Q hy hpr)
      · rw [List.append_nil] at hp
        rw [List.mem_singleton.mp hp]
        refine ⟨lt1, fun hm => ?_⟩
        have := hE _ hm
        rw [show ({ s1 with gens := s1.gens.push (.fresh (.func body (envOfC qual scope s.heap.objs.size f cdv))), toks := tk2, heap := s1.heap.push go } : Shared).heap.objs.size = s1.heap.objs.size + 1 from Heap.size_push _ _] at this
        exact absurd this (Nat.not_le.mpr (Nat.lt_succ_self _))
      · cases fl with
        | next =>
          obtain ⟨σ', H', I', hQ⟩ := hs
          exact seg_end (.ok (.ret .none)) ⟨γ', [], σ', H', hJ', I', rfl, hQ⟩
        | brk => obtain ⟨_, _, _, q⟩ := hs; exact False.elim q
        | cont => obtain ⟨_, _, _, q⟩ := hs; exact False.elim q
        | ret u =>
          obtain ⟨v, σ', H', I', rv, ev, hQ⟩ := hs
          subst ev
          have eu : u = Value.none := rv
          exact seg_end (.ok (.ret u)) ⟨γ', [], σ', H', hJ', I', eu, hQ⟩
  exact key _ _ _ _ rfl rfl rfl fun h => Heap.get?_push_size _ rfl
abbrev Jc (X : Cx) (pins : List (Addr × Obj)) (T : List Addr) : GJ := fun γ s => Inv X pins γ.τ γ.Hr s ∧ ∀ b ∈ T, ∃ u, γ.Hr b = some u
abbrev priv (F : Fm) (oL : Obj) (ip : List (Addr × Obj)) : List (Addr × Obj) := (F.L, oL) :: (F.pn ++ ip)
section
variable {X : Cx} {F : Fm} {pins : List (Addr × Obj)} {T : List Addr} {a g n : Nat} {A : Around} {yl : YL} {Q : QL}
structure Dozes (X : Cx) (pins : List (Addr × Obj)) (T : List Addr) (F : Fm) (g : Nat) (A : Around) (yl : YL) (Q : QL) (n : Nat) (C : L2.St → Hp → Prop) (oL : Obj) (ip : List (Addr × Obj)) (gs : GenState) : Prop where
  nap : Nap gs
  wake : ∀ s2 τ' H', Inv X (pins ++ priv F oL ip) τ' H' s2 → C τ' H' → (∀ b ∈ T, ∃ u, H' b = some u) → s2.gens[g]? = some gs → Onward (model X.prog X.w) A (R2 F (Jc X pins T) Q) (Y2 F (Jc X pins T) yl) n gs (.send .none) (s2.setGen g .running)
theorem slp_of {s : Shared} {τ : L2.St} {H : Hp} {oL : Obj} {ip : List (Addr × Obj)} (I : Inv X (pins ++ priv F oL ip) τ H s) : s.heap.get? F.L = some oL ∧ H F.L = none ∧ (∀ p ∈ F.pn ++ ip, s.heap.get? p.1 = some p.2 ∧ H p.1 = none) := by
  have h1 := I.pin (F.L, oL) (List.mem_append_right _ (List.mem_append_right _ List.mem_cons_self))
  refine ⟨h1.1, h1.2.1, fun p hp => ?_⟩
  have h2 := I.pin p (List.mem_append_right _ (List.mem_append_right _ (List.mem_cons_of_mem _ hp)))
  exact ⟨h2.1, h2.2.1⟩
theorem wakeInv {s : Shared} {τ σ : L2.St} {H : Hp} {oL : Obj} {h : Heap} {ip : List (Addr × Obj)} (hO : Of F X) (hA : F.A = A) (hfr : A.frames = some X.stack) (hF : Fit F) (hB : Bel X pins F.L F.E T) (I : Inv X (pins ++ priv F oL ip) τ H s) (z : Slp F ip σ h) (hL : h.get? F.L = some oL) : Inv (F.X (s.setGen g .running) H) ip σ H (s.setGen g .running) := by
  obtain ⟨q1, q2, q3⟩ := slp_of I
  have e0 := I.env0
  have own := hB.own (L2.Inv.unpinned I)
  obtain ⟨e1, e2, e3, e4, e5, e6⟩ := hO
  have e0' : Env0 F.P F.w F.K F.mg F.base F.A F.outer (s.setGen g .running) H := by
    rw [e1, e2, e3, e4, e5, e6, hA]
    exact ⟨hfr, e0.mod, e0.bs, e0.bsz, e0.funs, e0.frf, e0.hok, allBare_setGen e0.bare rfl⟩
  exact Fm.inv hF e0' q2 (fun p hp => (q3 p hp).2) own (z.keep hL q1 fun p hp => (q3 p hp).1)
theorem gturn {E : Value → Shared → Prop} {s : Shared} {τ : L2.St} {H : Hp} {oL : Obj} {ip : List (Addr × Obj)} {gs : GenState} (hO : Of F X) (hA : F.A = A.in1) (hfr : A.frames = some X.stack) (hF : Fit F) (hB : Bel X pins F.L F.E T) (hgo : ∃ go, (a, go) ∈ F.pn ∧ ∀ h : Heap, h.get? a = some go → h.IsGen a g)
    (hh : A.handled = none) (hroom : A.depth < recursionLimit) (hyT : ∀ γ x H C, yl γ x H C → ∀ b ∈ T, ∃ xs, H b = some (.lst xs)) (hQT : ∀ γ H, Q γ H → ∀ b ∈ T, ∃ xs, H b = some (.lst xs)) (I : Inv X (pins ++ priv F oL ip) τ H s) (hgs : s.gens[g]? = some gs) (hgoes : gs.Goes (model X.prog X.w) A.in1 (R2 F (Jc X pins T) Q) (Y2 F (Jc X pins T) yl) n (.send .none) (s.setGen g .running)) :
    wpAny (model X.prog X.w) A (pyNext (.ref a)) (fun r s' => match r with
      | none => ∃ γ H', Inv X pins γ.τ H' s' ∧ Q γ H'
      | some u => ∃ γ x H' C oL' ip' gs', RelV x u ∧ yl γ x H' C ∧ Inv X (pins ++ priv F oL' ip') γ.τ H' s' ∧ s'.gens[g]? = some gs' ∧ Dozes X pins T F g A.in1 yl Q n C oL' ip' gs') E s := by
  obtain ⟨go, hmem, hig⟩ := hgo
  have hgl : g < s.gens.size := (Array.getElem?_eq_some_iff.mp hgs).1
  have hIs : s.heap.IsGen a g := hig _ ((slp_of I).2.2 _ (List.mem_append_left _ hmem)).1
  refine wpAny_gsz (n := g + 1) hgl (next_nap hh I.nolimit hroom hIs hgs hgoes (fun v s₁ gs' hb hn hv hsz => ?_) (fun s₁ hp h' hk hsz => ?_))
  · obtain ⟨γ, x, ip', σ, H', C, hcount, hJ, rv, Ig, hip, hyl, hk⟩ := hv
    have hsz1 : g < s₁.gens.size := by
      have q : (s₁.setGen g gs').gens.size = s₁.gens.size := setGen_size _ _ _
      have hsz : g + 1 ≤ (s₁.setGen g gs').gens.size := hsz
      omega
    have z := Fm.slp hF Ig fun p hp => (hip p hp).1
    obtain ⟨m, ⟨oL', es, ep, hL, r⟩, _⟩ := id Ig.loc
    have hL : s₁.heap.get? F.L = some oL' := hL
    have Ic0 := Inv.slept hO hB hJ.1 (fun b hb2 => ⟨hJ.2 b hb2, hyT γ x H' C hyl b hb2⟩) Ig
    have Ic := Inv.slept2 (oL := oL') (ip := ip') hB Ic0 z hL Ig.free fun p hp => ⟨(Ig.pin p ((List.mem_append.mp hp).elim (fun z => List.mem_append_left _ (List.mem_append_left _ z)) fun z => List.mem_append_right _ z)).2.1, (hip p hp).2⟩
    refine ⟨γ, x, H', C, oL', ip', gs', rv, hyl, Inv.gens Ic (allBare_setGen Ic.bare hb), setGen_at hsz1, hn, fun s2 τ' H2 I2 hC hT2 hg2 => hk (s2.setGen g .running) τ' H2 hC ⟨?_, hT2⟩ (wakeInv hO hA hfr hF hB I2 z hL)⟩
    exact L2.Inv.unpinned (Inv.gens I2 (allBare_setGen I2.bare rfl))
  · obtain ⟨γ, ip', σ, H', hJ, Ig, _, hQ⟩ := hp
    have Ic := Inv.slept hO hB hJ.1 (fun b hb2 => ⟨hJ.2 b hb2, hQT γ H' hQ b hb2⟩) Ig
    exact ⟨γ, H', L2.Inv.kept (Inv.gens Ic (allBare_setGen Ic.bare rfl)) (t' := s₁.toks) hk, hQ⟩
end
end Mu

namespace Mu
open PySem PySem.Spec PyProof.Rows L2 He Evl StX GenW
abbrev TGy := L2.St → Hp → ((Gh → YL → QL → Prop) → Hp → Prop) → Prop
def MadeE (X : Cx) (pins : List (Addr × Obj)) (k : Nat) (σ : L2.St) (κ : (Gh → YL → QL → Prop) → Hp → Prop) (u : Value) (s' : Shared) : Prop :=
  ∃ H1 s1 pr fm a g c σ0, Inv X pins σ H1 s1 ∧ u = .ref a ∧ Made2 X.prog X.w X.K X.mg X.base k X.stack s1 pr s' fm a g c σ0 ∧ κ pr H1
structure PY (X : Cx) (k : Nat) (e : Expr) (tg : TGy) : Prop where
  run : ∀ (pins : List (Addr × Obj)) (s : Shared) (σ : L2.St) (H : Hp) (κ : (Gh → YL → QL → Prop) → Hp → Prop), Inv X pins σ H s → tg σ H κ → wpAny (model X.prog X.w) X.A (eval e X.env) (MadeE X pins k σ κ) X.xe s
def tCallY (sp : SpY) (n : Nat) (t : TA) : TGy := fun σ H κ => t σ H fun vs H1 => vs.length = n ∧ κ (fun γ yl Q => sp vs γ yl Q) H1
section
variable {X : Cx} {k : Nat} {f C : Addr} {fd : FuncData} {ps : List Str} {sp : SpY} {x m : Str} {p pos pos' apos : Pos} {o e : Expr} {es : List Expr} {ta : TE} {t : TA}
theorem run_gy {pins : List (Addr × Obj)} {σ : L2.St} {H : Hp} {s : Shared} {us : List Value} {vs : List V} {κ : (Gh → YL → QL → Prop) → Hp → Prop} {E : Value → Shared → Prop} (F : GnY X.prog X.w X.K X.mg X.base k f fd ps sp) (hr : Room k X.A) (hb : Binds X.K fd ps [])
    (I : Inv X pins σ H s) (r : Vals vs us) (hl : vs.length = ps.length) (h : κ (fun γ yl Q => sp vs γ yl Q) H) : wpAny (model X.prog X.w) X.A (call (.ref f) us) (MadeE X pins k σ κ) E s := by
  have hl2 : us.length = ps.length := by rw [← r.length]; exact hl
  have hbind := hb s us I.kIn (by rw [List.append_nil]; exact hl2)
  rw [List.append_nil] at hbind
  refine wpAny_call (codeAny_mono (F.run X.A X.stack s H ⟨us, []⟩ us vs hr I.env0 hbind r hl) fun r s' hq => ?_)
  obtain ⟨fm, a, g, c, σ0, rfl, M⟩ := hq
  exact ⟨H, s, _, fm, a, g, c, σ0, I, rfl, M, h⟩
theorem py_call (F : GnY X.prog X.w X.K X.mg X.base k f fd ps sp) (hr : Room k X.A) (hg : Gl X x) (hm : X.mg x = some (.ref f)) (hk : PySem.W.keepIn X.K (.ref f) = true) (hb : Binds X.K fd ps [])
    (ha : PA X (e :: es) t) (hdb : (x == ("__debug__" : Str)) = false := by decide) (he : starEach (e :: es) X.env = (false, eval e X.env) :: starEach es X.env := by rfl) (hpl : (backTo pos' (starEach es X.env)).any (·.1) = false := by rfl) :
    PY X k (.Call (.Name x p) (e :: es) [] pos') (tCallY sp ps.length t) := by
  refine ⟨fun pins s σ H κ I h => wpAny_Call_Name_kw (ld_glob I hg hm ?_ hdb)⟩
  refine PySem.W.callWith_K (h₀ := X.base) I.ok.mod.kin hk (thn (ha.run pos' pins s σ H _ I h) fun us s1 ⟨vs, H1, I1, r, hl, q⟩ => ⟨I1.kIn, ?_⟩) he hpl
  exact run_gy F hr hb I1 r hl q
end
section
variable {X : Cx} {F : Fm} {pins : List (Addr × Obj)} {a g n k : Nat} {yl : YL} {Q : QL}
theorem lulled {α : Type} {A : Around} {t : Sem α} {Φ : α → Shared → Prop} {E : Value → Shared → Prop} {s : Shared} {gs : GenState} (hg : s.gens[g]? = some gs) (hn : Nap gs) (h : wpAny (model X.prog X.w) A t Φ (fun _ _ => False) { s with gens := s.gens.map lull }) :
    wpAny (model X.prog X.w) A t (fun a s' => s'.gens[g]? = some gs ∧ ∃ G, (AllBare G → AllBare s'.gens) ∧ Φ a { s' with gens := G }) E s :=
  wpAny_mono (wpAny_lull hg hn h) (fun _ _ z => z) fun _ _ z => by obtain ⟨_, _, z⟩ := z; exact z.elim
theorem back {σ : L2.St} {H : Hp} {s : Shared} {G : Array GenState} (hb : AllBare G → AllBare s.gens) (I : Inv X pins σ H { s with gens := G }) : Inv X pins σ H s := Inv.gens I (hb I.bare)
structure Begin (X : Cx) (pins : List (Addr × Obj)) (T : List Addr) (F : Fm) (A : Around) (a g : Nat) (pr : Gh → YL → QL → Prop) (s1 : Shared) (c : Code) (σ0 : L2.St) (oL : Obj) : Prop where
  of : Of F X
  ar : F.A = A.in1
  fit : Fit F
  bel : Bel X pins F.L F.E T
  go : ∃ go, (a, go) ∈ F.pn ∧ ∀ h : Heap, h.get? a = some go → h.IsGen a g
  get : s1.gens[g]? = some (.fresh c)
  obj : s1.heap.get? F.L = some oL
  slp : Slp F [] σ0 s1.heap
  big : ∀ b ∈ F.E, s1.heap.objs.size ≤ b
  run : ∀ yl Q γ s2, γ.ys = [] → Jc X pins T γ s2 → pr γ yl Q → Inv (F.X s2 γ.Hr) [] σ0 γ.Hr s2 → Seg (model X.prog X.w) A.in1 (R2 F (Jc X pins T) Q) (Y2 F (Jc X pins T) yl) sizeLine s2 c ((model X.prog X.w).den c) [] s2
theorem begin_of {A : Around} {E T : List Addr} {s0 s1 : Shared} {pr : Gh → YL → QL → Prop} {fm : Around → List Addr → Fm} {c : Code} {σ0 : L2.St} (hr : Room k A.in1) (hB : Bel X pins s0.heap.objs.size E T) (hE : ∀ b ∈ E, s1.heap.objs.size ≤ b) (M : Made2 X.prog X.w X.K X.mg X.base k X.stack s0 pr s1 fm a g c σ0) :
    ∃ oL, Begin X pins T (fm A.in1 E) A a g pr s1 c σ0 oL ∧ (fm A.in1 E).L = s0.heap.objs.size := by
  obtain ⟨q1, q2, q3, q4, q5, q6, q7, q8, q9⟩ := M.eqs A.in1 E
  have z := M.slp A.in1 E
  obtain ⟨m, ⟨oL, es, ep, hL, rr⟩, hl⟩ := id z.loc
  exact ⟨oL, ⟨⟨q1, q2, q3, q4, q5, q6⟩, q7, M.fit _ _ hr.hd, by rw [q8, q9]; exact hB, M.go _ _, M.new, hL, z, by rw [q9]; exact hE, fun yl Q γ s2 h1 h2 h3 h4 => M.run A.in1 E (Jc X pins T) yl Q γ s2 hE hr h1 h2 h3 h4⟩, q8⟩
theorem Begin.inv {A : Around} {T : List Addr} {pr : Gh → YL → QL → Prop} {s1 s2 : Shared} {c : Code} {σ0 τ : L2.St} {oL : Obj} {H : Hp} (b : Begin X pins T F A a g pr s1 c σ0 oL) (I : Inv X pins τ H s2) (hk : ∀ x o, F.L ≤ x → s1.heap.get? x = some o → s2.heap.get? x = some o) (hn : ∀ x, F.L ≤ x → x < s1.heap.objs.size → H x = none) : Inv X (pins ++ priv F oL []) τ H s2 := by
  have z := b.slp
  have h1 : ∀ p ∈ F.pn ++ [], p.1 < s1.heap.objs.size := fun p hp => Heap.lt_size (z.pin p hp).1
  refine Inv.slept2 b.bel I (z.keep b.obj (hk _ _ (Nat.le_refl _) b.obj) fun p hp => hk _ _ (Nat.le_of_lt (z.pin p hp).2.1) (z.pin p hp).1) (hk _ _ (Nat.le_refl _) b.obj) (hn _ (Nat.le_refl _) (Heap.lt_size b.obj)) fun p hp => ⟨hn _ (Nat.le_of_lt (z.pin p hp).2.1) (h1 p hp), fun hm => absurd (b.big _ hm) (Nat.not_le.mpr (h1 p hp))⟩
theorem Begin.goes {A : Around} {T : List Addr} {pr : Gh → YL → QL → Prop} {s1 s2 : Shared} {c : Code} {σ0 τ : L2.St} {oL : Obj} {H : Hp} (b : Begin X pins T F A a g pr s1 c σ0 oL) (hfr : A.frames = some X.stack) (I : Inv X (pins ++ priv F oL []) τ H s2) (hT : ∀ b ∈ T, ∃ u, H b = some u) (h : pr ⟨[], τ, H⟩ yl Q) :
    (GenState.fresh c).Goes (model X.prog X.w) A.in1 (R2 F (Jc X pins T) Q) (Y2 F (Jc X pins T) yl) sizeLine (.send .none) (s2.setGen g .running) :=
  ⟨rfl, b.run yl Q ⟨[], τ, H⟩ _ rfl ⟨L2.Inv.unpinned (Inv.gens I (allBare_setGen I.bare rfl)), hT⟩ h (wakeInv b.of b.ar hfr b.fit b.bel I b.slp b.obj)⟩
end
def ylFor (g : TG) (tb : TS) (D : Ends) : YL := fun γ x H2 C => g x γ.τ H2 fun σ3 H3 => tb { D with nx := C, ct := C, bk := D.nx } σ3 H3
def tForY (tg : TGy) (g : TG) (tb : TS) : TS := fun D σ H => tg σ H fun pr H1 => pr ⟨[], σ, H1⟩ (ylFor g tb D) fun γ H2 => D.nx γ.τ H2
section
variable {X : Cx} {k : Nat} {iter tg : Expr} {body : List Stmt} {ty : TGy} {g : TG} {tb : TS} {pos : Pos}
theorem ps_forY0 (hx : X.xe = fun _ _ => False) (hr : Room (k + 1) X.A) (hi : PY X k iter ty) (hg : PG X tg g) (hb : PSs X body tb)
    (hs : ∀ x, foldedSetIterable iter X.env x = pure x := by intro _; rfl) : PS X (.For tg iter body [] pos) (tForY ty g tb) := by
  have ff : ∀ {α : Type} {A : Around} {t : Sem α} {Φ : α → Shared → Prop} {s : Shared} {E : Value → Shared → Prop}, wpAny (model X.prog X.w) A t Φ X.xe s → wpAny (model X.prog X.w) A t Φ E s := fun h => wpAny_mono h (fun _ _ z => z) fun _ _ z => by rw [hx] at z; exact z.elim
  have ff0 : ∀ {α : Type} {A : Around} {t : Sem α} {Φ : α → Shared → Prop} {s : Shared}, wpAny (model X.prog X.w) A t Φ X.xe s → wpAny (model X.prog X.w) A t Φ (fun _ _ => False) s := fun h => ff h
  refine ⟨fun pins s σ H D I h => ?_⟩
  refine wpAny_For (thn (hi.run pins s σ H _ I h) fun v s1 h1 => ?_) hs
  obtain ⟨H1, s0, pr, fm, a, gn, c, σ0, I0, rfl, M, hpr⟩ := h1
  obtain ⟨oL, B, hFL⟩ := begin_of (A := X.A) (E := []) (T := []) hr.in1 (Bel.of I0) (fun b y => nomatch y) M
  have I1 : Inv X pins σ H1 s1 := I0.call' (ch := []) M.os (Un.kept M.keep) (I0.hok.kept M.keep) M.bare fun b y => nomatch y
  generalize fm X.A.in1 [] = F at B hFL
  have I1 := B.inv I1 (fun _ _ _ e => e) fun x hx _ => I0.hok.fresh (by rw [← hFL]; exact hx)
  obtain ⟨go, hmem, hig⟩ := id B.go
  have hIs : ∀ {oL' ip τ H' s'}, Inv X (pins ++ priv F oL' ip) τ H' s' → s'.heap.IsGen a gn := fun I' => hig _ ((slp_of I').2.2 _ (List.mem_append_left _ hmem)).1
  refine wpAny_pyIter_gen (hIs I1) ?_
  refine codeAny_forLoop_any (fun n s' => ∃ τ H' oL ip gs, Inv X (pins ++ priv F oL ip) τ H' s' ∧ s'.gens[gn]? = some gs ∧ gs.Goes (model X.prog X.w) X.A.in1 (R2 F (Jc X pins []) fun γ H2 => D.nx γ.τ H2) (Y2 F (Jc X pins []) (ylFor g tb D)) n (.send .none) (s'.setGen gn .running)) ?_ sizeLine
    ⟨σ, H1, oL, [], _, I1, B.get, B.goes I1.ok.frames I1 (fun b y => nomatch y) hpr⟩
  rintro n s3 ⟨τ, H3, oL3, ip3, gs, I3, hgs, hgo⟩
  refine wpAny_mono (gturn (E := fun _ _ => False) B.of B.ar I3.ok.frames B.fit B.bel B.go hr.hd hr.depth (fun _ _ _ _ _ b y => nomatch y) (fun _ _ _ b y => nomatch y) I3 hgs hgo) (fun r s4 h4 => ?_) fun _ _ z => False.elim z
  cases r with
  | none =>
    obtain ⟨γ, H4, I4, q4⟩ := h4
    exact wpAny_execs_nil ⟨γ.τ, H4, I4, q4⟩
  | some u =>
    obtain ⟨γ, x, H4, C, oL4, ip4, gs4, rv, q4, I4, hg4, hz⟩ := h4
    obtain ⟨o, nm, qn, ho, hc, hd, _⟩ := hIs I4
    refine go_of ho hc hd (by decide) ?_
    refine wpAny_mono (lulled hg4 hz.nap (ff0 (hg.run _ _ γ.τ H4 x u _ (Inv.gens I4 (allBare_lull I4.bare)) rv q4))) (fun _ s5 h5 => ?_) fun _ _ z => False.elim z
    obtain ⟨hg5, G5, b5, τ5, H5, I5, q5⟩ := h5
    have I5 := back b5 I5
    refine wpAny_mono (lulled hg5 hz.nap (ff0 (hb.run _ _ τ5 H5 _ (Inv.gens I5 (allBare_lull I5.bare)) q5))) (fun f s6 h6 => ?_) fun _ _ z => False.elim z
    obtain ⟨hg6, G6, b6, q6⟩ := h6
    have again : ∀ {τ7 H7}, Inv X (pins ++ priv F oL4 ip4) τ7 H7 s6 → C τ7 H7 → ∃ m, m < n ∧ ∃ τ H' oL ip gs, Inv X (pins ++ priv F oL ip) τ H' s6 ∧ s6.gens[gn]? = some gs ∧ gs.Goes (model X.prog X.w) X.A.in1 (R2 F (Jc X pins []) fun γ H2 => D.nx γ.τ H2) (Y2 F (Jc X pins []) (ylFor g tb D)) m (.send .none) (s6.setGen gn .running) := fun {τ7 H7} I7 c7 => by
      have w := hz.wake s6 τ7 H7 I7 c7 (fun b y => nomatch y) hg6
      cases n with
      | zero => exact False.elim w
      | succ m => exact ⟨m, Nat.lt_succ_self m, τ7, H7, oL4, ip4, gs4, I7, hg6, w⟩
    cases f with
    | next => obtain ⟨τ7, H7, I7, c7⟩ := q6; exact again (back b6 I7) c7
    | cont => obtain ⟨τ7, H7, I7, c7⟩ := q6; exact again (back b6 I7) c7
    | brk => obtain ⟨τ7, H7, I7, c7⟩ := q6; exact ⟨τ7, H7, L2.Inv.unpinned (back b6 I7), c7⟩
    | ret v => obtain ⟨x7, τ7, H7, I7, r7, c7⟩ := q6; exact ⟨x7, τ7, H7, L2.Inv.unpinned (back b6 I7), r7, c7⟩
end
end Mu

namespace Mu
open PySem PySem.Spec PyProof.Rows L2 He Evl StX GenW
def ylLst (S : Addr) (σ : L2.St) : YL := fun γ x H2 C => γ.τ = σ ∧ ∃ acc, H2 S = some (.lst acc) ∧ acc.length < sizeLine ∧ C σ (upd H2 S (.lst (acc ++ [x])))
def tListY (tg : TGy) : TE := fun σ H Q => tg σ H fun pr H1 => ∀ S, H1 S = none → pr ⟨[], σ, upd H1 S (.lst [])⟩ (ylLst S σ) fun γ H2 => γ.τ = σ ∧ Q (.ref S) H2
section
variable {X : Cx} {F : Fm} {pins : List (Addr × Obj)} {a g k : Nat} {A : Around}
theorem drainY {pr : Gh → YL → QL → Prop} {S : Addr} {σ σ0 : L2.St} {Q : VK} {R : Result → Shared → Prop} {s1 : Shared} {c : Code} {oL : Obj} (B : Begin X pins [] F A.in1 a g pr s1 c σ0 oL) (hfr : A.frames = some X.stack) (hh : A.handled = none) (hd : A.depth < recursionLimit)
    (hend : ∀ H' s', Inv X pins σ H' s' → Q (.ref S) H' → R (.ok (.ret .none)) s') :
    ∀ (n : Nat) (s : Shared) (τ : L2.St) (H : Hp) (oL : Obj) (ip : List (Addr × Obj)) (gs : GenState), Inv X (pins ++ priv F oL ip) τ H s → s.gens[g]? = some gs →
      gs.Goes (model X.prog X.w) A.in1.in1 (R2 F (Jc X pins []) fun γ H2 => γ.τ = σ ∧ Q (.ref S) H2) (Y2 F (Jc X pins []) (ylLst S σ)) n (.send .none) (s.setGen g .running) →
      codeAny (model X.prog X.w) A (.builtin "list.extend.loop" ⟨[.ref S, .ref a, .none], []⟩) R s := by
  intro n
  induction n using Nat.strongRecOn with
  | ind n ih =>
    intro s τ H oL ip gs I hgs hgo
    refine codeAny_builtin PySem.F.entry_extend_loop ?_
    rw [Around.under_plainId PySem.F.plain_extend_loop _]
    show wpAny _ A.in1 (pyNext (.ref a) >>= _) _ _ s
    refine wpAny_bind (wpAny_mono (gturn (E := fun _ _ => False) B.of B.ar hfr B.fit B.bel B.go hh hd (fun _ _ _ _ _ b y => nomatch y) (fun _ _ _ b y => nomatch y) I hgs hgo) (fun r s4 h4 => ?_) fun _ _ z => False.elim z)
    cases r with
    | none =>
      obtain ⟨γ, H4, I4, e, q4⟩ := h4
      rw [e] at I4
      exact wpAny_pure (hend H4 s4 I4 q4)
    | some u =>
      obtain ⟨γ, x, H4, C, oL4, ip4, gs4, rv, ⟨e, acc, hq, hlen, hC⟩, I4, hg4, hz⟩ := h4
      rw [e] at I4
      show wpAny _ A.in1 (updateSeq S (·.push u) >>= _) _ _ _
      obtain ⟨z, its, kk, r2, hl, eo⟩ := L2.Inv.lstM I4 hq
      have I5 := L2.Inv.lset (its' := its ++ [u]) (f := fun q => q.push u) (t' := s4.toks) I4 hq eo (by simp) (r2.append (.cons rv .nil)) (by rw [List.length_append, List.length_singleton]; omega)
      refine wpAny_bind (wpAny_updateSeq eo rfl (wpAny_pure ⟨plainId_quiet PySem.F.plain_extend_loop _, ?_⟩) (by rw [List.size_toArray]; omega) (by show (its.toArray.push u).size ≤ sizeLine + 1; rw [Array.size_push, List.size_toArray]; omega))
      have w := hz.wake _ σ _ I5 hC (fun b y => nomatch y) hg4
      cases n with
      | zero => exact False.elim w
      | succ m => exact ih m (Nat.lt_succ_self m) _ σ _ oL4 ip4 gs4 I5 hg4 w
theorem call_listY {σ σ0 : L2.St} {H1 : Hp} {pr : Gh → YL → QL → Prop} {s1 : Shared} {c : Code} {oL : Obj} {Q : VK} {E : Value → Shared → Prop} (B : Begin X pins [] F A.in1.in1 a g pr s1 c σ0 oL) (hfr : A.frames = some X.stack) (hh : A.handled = none) (hd : A.depth < recursionLimit) (I1 : Inv X pins σ H1 s1)
    (hn : ∀ x, F.L ≤ x → x < s1.heap.objs.size → H1 x = none) (h : ∀ S, H1 S = none → pr ⟨[], σ, upd H1 S (.lst [])⟩ (ylLst S σ) fun γ H2 => γ.τ = σ ∧ Q (.ref S) H2) : wpAny (model X.prog X.w) A (call (.type "list") [.ref a]) (EP X pins σ Q) E s1 := by
  obtain ⟨go, hmem, hig⟩ := id B.go
  have hga : s1.heap.IsGen a g := hig _ (B.slp.pin _ (List.mem_append_left _ hmem)).1
  obtain ⟨o, nm, qn, hoa, _⟩ := id hga
  have hSa : s1.heap.objs.size ≠ a := Nat.ne_of_gt (Heap.lt_size hoa)
  refine callType_codes (Q₁ := fun obj s₁ => obj = .ref s1.heap.objs.size ∧ s₁ = { s1 with heap := s1.heap.push { cls := .type "list", data := .seq #[] } }) PySem.F.called_list (PySem.F.typeCall_list_1 _) PySem.F.entry_list_init
    (code_list_new _ ⟨rfl, rfl⟩) fun obj s₁ h₁ => ?_
  obtain ⟨rfl, rfl⟩ := h₁
  have g0 : (s1.heap.push { cls := .type "list", data := .seq #[] }).get? s1.heap.objs.size = some { cls := .type "list", data := .seq #[] } := Heap.get?_push_size _ rfl
  refine ⟨⟨_, g0, rfl⟩, PySem.F.args_list_init_2 _ _, ?_⟩
  show wpAny _ A.in1.in1 (Builtin.List.listItems (.ref s1.heap.objs.size) >>= fun old => (Builtin.List.listUpdate (.ref s1.heap.objs.size) (fun _ => #[]) >>= fun _ => letGo old.toList.reverse >>= fun _ => Builtin.List.listExtendWith (.ref s1.heap.objs.size) (.ref a) .none)) _ _ _
  refine wpAny_bind ?_
  unfold Builtin.List.listItems
  refine wpAny_bind (wpAny_seqItems g0 rfl (wpAny_pure ?_))
  refine wpAny_bind ?_
  show wpAny _ A.in1.in1 (updateSeq s1.heap.objs.size (fun _ => #[])) _ _ _
  refine wpAny_updateSeq g0 rfl ?_
  have g1 := Heap.get?_update_self (Obj.mapSeq (fun _ => (#[] : Array Value))) g0 rfl
  refine wpAny_bind (wpAny_letGo ?_)
  unfold Builtin.List.listExtendWith
  have kup : ∀ (hp : Heap) (f : Obj → Obj), (∀ b o, s1.heap.get? b = some o → hp.get? b = some o) → ∀ b o, s1.heap.get? b = some o → (hp.update s1.heap.objs.size f).get? b = some o := fun hp f q b o e =>
    (Heap.get?_update_other _ _ (Nat.ne_of_gt (Heap.lt_size e))).trans (q b o e)
  have q0 : ∀ b o, s1.heap.get? b = some o → (s1.heap.push { cls := .type "list", data := .seq #[] }).get? b = some o := fun b o e => Heap.get?_push_of_some _ e
  have q1 := kup _ (Obj.mapSeq (fun _ => (#[] : Array Value))) q0
  have ty : ∀ {hp : Heap}, (∀ b o, s1.heap.get? b = some o → hp.get? b = some o) → hp.IsGen a g := fun q => hga.keeps q
  refine wpAny_bind (wpAny_typeOf (Heap.IsGen.typeIs (s := { s1 with heap := _ }) (ty q1)) ?_)
  have t1 : Builtin.List.listSameRef (.ref s1.heap.objs.size) (.ref a) = false := by simp [Builtin.List.listSameRef, hSa]
  simp only [t1, show (Value.type "generator" == Value.type "list") = false by decide, show (Value.type "generator" == Value.type "tuple") = false by decide, Bool.or_false, Bool.false_eq_true, if_false]
  refine wpAny_bind (wpAny_pyIter_gen (s := { s1 with heap := _ }) (ty q1) (wpAny_bind (wpAny_holding ?_)))
  unfold Builtin.List.listLengthHint
  refine wpAny_bind (wpAny_specialOf (Heap.IsGen.typeIs (s := { s1 with heap := _ }) (ty q1)) PySem.F.gen_no_len ?_)
  show wpAny _ A.in1.in1 (specialOf (Value.ref a) (Str.ofString "__length_hint__") >>= _) _ _ _
  refine wpAny_bind (wpAny_specialOf (Heap.IsGen.typeIs (s := { s1 with heap := _ }) (ty q1)) PySem.F.gen_no_hint (wpAny_pure ?_))
  show wpAny _ A.in1.in1 (rule "list.extend.makes-room" >>= fun _ => Builtin.List.listTouch (.ref s1.heap.objs.size) >>= fun _ => again (.builtin "list.extend.loop" ⟨[.ref s1.heap.objs.size, .ref a, .none], []⟩)) _ _ _
  refine wpAny_bind (wpAny_rule (wpAny_bind ?_))
  show wpAny _ A.in1.in1 (updateSeq s1.heap.objs.size (·.push .none) >>= fun _ => updateSeq s1.heap.objs.size (·.pop)) _ _ _
  refine wpAny_bind (wpAny_updateSeq g1 rfl ?_)
  have g2 := Heap.get?_update_self (Obj.mapSeq (·.push Value.none)) g1 rfl
  refine wpAny_updateSeq (hz := by seq_fits) g2 rfl ?_
  have g3 := Heap.get?_update_self (Obj.mapSeq (·.pop)) g2 rfl
  have q3 := kup _ (Obj.mapSeq (·.pop)) (kup _ (Obj.mapSeq (·.push Value.none)) q1)
  refine wpAny_pure ⟨plainId_quiet PySem.F.plain_extend_loop _, ?_⟩
  have IS := L2.Inv.laid (o := .lst []) (t' := s1.toks) I1 q3 (Nat.le_refl _) ⟨Nat.zero_le _, [], _, .nil, g3⟩
  have I5 := B.inv IS (fun x o _ e => q3 x o e) fun x h1 h2 => by rw [upd_ne (Nat.ne_of_lt h2)]; exact hn x h1 h2
  refine drainY (A := A.in1) B hfr hh hd (fun H' s' I' q' => ⟨rfl, .ref s1.heap.objs.size, H', I', rfl, q'⟩) sizeLine _ σ _ oL [] _ I5 B.get (B.goes hfr I5 (fun b y => nomatch y) (h _ (I1.hok.fresh (Nat.le_refl _))))
theorem pe_listY {e : Expr} {tg : TGy} {nm : Str} {p pos : Pos} (h : PY X k e tg) (hr : Room (k + 3) X.A) (hg : Gl X nm) (hmg : X.mg nm = none) (hv : bootBuiltins nm = some (.type "list")) (hnm : nm ≠ "__name__" := by decide) (hdb : (nm == ("__debug__" : Str)) = false := by decide)
    (he : starEach [e] X.env = (false, eval e X.env) :: starEach [] X.env := by rfl) : PE X (.Call (.Name nm p) [e] [] pos) (tListY tg) := by
  refine ⟨fun pins s σ H Q I hq => wpAny_Call_Name_kw (ld_blt I hg hmg hv (PyProof.Rows.callWith_type1 ?_ he rfl) hnm hdb)⟩
  rw [he]
  show wpAny _ _ (spliced ((false, eval e X.env) :: backTo pos (starEach [] X.env))) _ _ s
  refine Calls.spliced_cons (thn (h.run pins s σ H _ I hq) fun u s1 ⟨H1, s0, pr, fm, a, g, c, σ0, I0, ea, M, hpr⟩ => Calls.spliced_nil ?_)
  subst ea
  have r3 : Room k X.A.in1.in1.in1 := (show Room (k + 2) X.A.in1 from hr.in1).in1.in1
  obtain ⟨oL, B, hFL⟩ := begin_of (A := X.A.in1.in1) (E := []) (T := []) r3 (Bel.of I0) (fun b y => nomatch y) M
  have I1 : Inv X pins σ H1 s1 := I0.call' (ch := []) M.os (Un.kept M.keep) (I0.hok.kept M.keep) M.bare fun b y => nomatch y
  exact call_listY B I1.ok.frames hr.hd hr.depth I1 (fun x hx _ => I0.hok.fresh (by rw [← hFL]; exact hx)) hpr
end
end Mu

namespace Mu
open PySem PySem.Spec PyProof.Rows L2 He Evl StX GenW
section
variable {X : Cx} {k : Nat}
end
end Mu

namespace Mu
open PySem PySem.Spec PyProof.Rows L2 He Evl StX GenW
def del (F : List Addr) (H : Hp) : Hp := fun a => if a ∈ F then none else H a
theorem del_some {F : List Addr} {H : Hp} {a : Addr} {o : HO} (h : del F H a = some o) : a ∉ F ∧ H a = some o := by
  unfold del at h
  split at h
  · cases h
  · rename_i z; exact ⟨z, h⟩
theorem del_none {F : List Addr} {H : Hp} {a : Addr} (h : del F H a = none) : a ∈ F ∨ H a = none := by
  unfold del at h
  split at h
  · rename_i z; exact .inl z
  · exact .inr h
theorem del_in {F : List Addr} {H : Hp} {a : Addr} (h : a ∈ F) : del F H a = none := by unfold del; rw [if_pos h]
theorem del_out {F : List Addr} {H : Hp} {a : Addr} (h : a ∉ F) : del F H a = H a := by unfold del; rw [if_neg h]
structure Gw (G Hr : Hp) (F : List Addr) (G1 H1 : Hp) (F1 : List Addr) : Prop where
  g : Ex G G1
  i : Ex G1 H1
  h : ∀ a o, Hr a = some o → a ∉ F → H1 a = some o
  n : ∀ a o, Hr a = some o → Mt o → a ∉ F → G a = none → G1 a = none
  f : ∀ a ∈ F1, G1 a = none ∧ (∃ o, H1 a = some o ∧ Mt o) ∧ (a ∈ F ∨ Hr a = none)
  nd : F1.Nodup
def DEM (yl : YL) (Q : QL) (out : List Rp) : Nat → Gh → Hp → List Addr → Prop
  | 0, _, _, _ => False
  | m + 1, γ, G, F => (∀ r, out[γ.ys.length]? = some r → ∀ x G1 H1 F1 C, Gw G γ.Hr F G1 H1 F1 → r.p x G1 →
      (∀ τ' H2, Ex G1 H2 → (∀ a ∈ F1, ∀ o, H1 a = some o → H2 a = some o) → DEM yl Q out m ⟨γ.ys ++ [x], τ', H2⟩ G1 F1 → C τ' H2) → yl γ x H1 C) ∧
    (out[γ.ys.length]? = none → ∀ G1 H1 F1, Gw G γ.Hr F G1 H1 F1 → Q γ H1)
def At (yl : YL) (Q : QL) (out : List Rp) (Gl : Hp) (m : Nat) (γ : Gh) (G H : Hp) (M : List Re) : Prop :=
  ∃ Gv F, DEM yl Q out m γ Gv F ∧ Ok ⟨Gv, del F γ.Hr, [], Gl⟩ G H M ∧ γ.ys.length + m ≤ 1000000
theorem gw_of {Gv Hr G H Gl : Hp} {F : List Addr} {M : List Re} (o : Ok ⟨Gv, del F Hr, [], Gl⟩ G H M) : Gw Gv Hr F G H (feet M) where
  g := o.g
  i := o.i
  h := fun a u e n => o.h a u ((del_out n).trans e) fun q => nomatch q
  n := fun a u e t n z => o.n a u ((del_out n).trans e) t z
  f := fun a ha => by
    obtain ⟨r, hr, hf⟩ := List.mem_flatMap.mp ha
    refine ⟨o.z a ha, r.at_ (o.m r hr) a hf, ?_⟩
    rcases o.f r hr a hf with q | q
    · exact del_none q
    · exact nomatch q.2
  nd := o.d
theorem At.gr {yl : YL} {Q : QL} {out : List Rp} {m : Nat} {γ : Gh} {G H G2 H2 Gl : Hp} {M : List Re} (a : At yl Q out Gl m γ G H M) (g : Gr G H G2 H2) : At yl Q out Gl m γ G2 H2 M := by
  obtain ⟨Gv, F, d, o, l⟩ := a
  exact ⟨Gv, F, d, o.gr g, l⟩
structure GKy where
  nx : Nat → Ctx → List Re → Prop
  rt : Nat → Rp → List Re → Prop := fun _ _ _ => False
  bk : Nat → Ctx → List Re → Prop := fun _ _ _ => False
  ct : Nat → Ctx → List Re → Prop := fun _ _ _ => False
def GKy.at_ (κ : GKy) (i : Nat) : Kn := { nx := κ.nx i, rt := κ.rt i, bk := κ.bk i, ct := κ.ct i }
structure Gky (yl : YL) (Q : QL) (out : List Rp) (Gl : Hp) (D : G2E) (κ : GKy) : Prop where
  nx : ∀ m γ σ G H Γ M, At yl Q out Gl m γ G H M → En σ G Γ → κ.nx γ.ys.length Γ M → D.nx γ σ H
  rt : ∀ m γ v G H r M, At yl Q out Gl m γ G H M → r.p v G → κ.rt γ.ys.length r M → D.rt γ v H
  bk : ∀ m γ σ G H Γ M, At yl Q out Gl m γ G H M → En σ G Γ → κ.bk γ.ys.length Γ M → D.bk γ σ H
  ct : ∀ m γ σ G H Γ M, At yl Q out Gl m γ G H M → En σ G Γ → κ.ct γ.ys.length Γ M → D.ct γ σ H
def GWY (out : List Rp) (Γ : Ctx) (M : List Re) (i : Nat) (t : TG2) (κ : GKy) : Prop := ∀ yl Q Gl m γ G H σ D, γ.ys.length = i → At yl Q out Gl m γ G H M → En σ G Γ → Gky yl Q out Gl D κ → t yl D γ σ H
section
variable {out : List Rp} {Γ Γ' : Ctx} {M : List Re} {i : Nat} {t u : TG2} {ts : TS} {tc : TT} {te tl : TE} {κ : GKy} {r : Rp} {K : PySem.W.Frag}
theorem y_seq (h : GWY out Γ M i t { κ with nx := fun i' Γ' M' => GWY out Γ' M' i' u κ }) : GWY out Γ M i (tThen2 t u) κ := fun yl Q Gl m γ G H σ D e a en d =>
  h yl Q Gl m γ G H σ _ e a en ⟨fun m' γ' σ' G' H' Γ' M' a' en' w => w yl Q Gl m' γ' G' H' σ' D rfl a' en' d, d.rt, d.bk, d.ct⟩
theorem y_cut {α : Type} (P : α → Prop) (I : α → Nat) (Γi : α → Ctx) (Mi : α → List Re) (h : GWY out Γ M i t { κ with nx := fun i' Γ' M' => ∃ a, P a ∧ i' = I a ∧ Sub Γ' (Γi a) ∧ M' = Mi a }) (h2 : ∀ a, P a → GWY out (Γi a) (Mi a) (I a) u κ) : GWY out Γ M i (tThen2 t u) κ := fun yl Q Gl m γ G H σ D e a en d =>
  h yl Q Gl m γ G H σ _ e a en ⟨fun m' γ' σ' G' H' Γ' M' a' en' ⟨b, pb, ib, sb, mb⟩ => h2 b pb yl Q Gl m' γ' G' H' σ' D ib (mb ▸ a') (en'.weak sb) d, d.rt, d.bk, d.ct⟩
theorem y_ps (h : WP W0 Γ M ts (κ.at_ i)) : GWY out Γ M i (tP2 ts) κ := fun yl Q Gl m γ G H σ D e a en d => by
  subst e
  obtain ⟨Gv, F, dm, o, l⟩ := a
  exact h _ G H σ _ o en ⟨fun σ' G' H' Γ' M' o' en' z => d.nx m γ σ' G' H' Γ' M' ⟨Gv, F, dm, o', l⟩ en' z, fun v G' H' r' M' o' hv z => d.rt m γ v G' H' r' M' ⟨Gv, F, dm, o', l⟩ hv z, fun σ' G' H' Γ' M' o' en' z => d.bk m γ σ' G' H' Γ' M' ⟨Gv, F, dm, o', l⟩ en' z, fun σ' G' H' Γ' M' o' en' z => d.ct m γ σ' G' H' Γ' M' ⟨Gv, F, dm, o', l⟩ en' z, fun _ _ _ _ _ _ _ _ _ _ _ z => z.elim⟩
theorem y_nil (h : κ.nx i Γ M) : GWY out Γ M i t02 κ := fun yl Q Gl m γ G H σ D e a en d => d.nx m γ σ G H Γ M a en (e ▸ h)
theorem y_if (b : Bool) (h : EXT Γ M tc (fun c M' => c = b ∧ M' = M)) (h1 : b = true → GWY out Γ M i t κ) (h2 : b = false → GWY out Γ M i u κ) : GWY out Γ M i (tIf2 tc t u) κ := fun yl Q Gl m γ G H σ D e a en d => by
  obtain ⟨Gv, F, dm, o, l⟩ := a
  refine h _ G H σ o en _ fun c G2 H2 M2 z o2 e2 => ?_
  obtain ⟨rfl, rfl⟩ := z
  have a2 : At yl Q out Gl m γ G2 H2 M2 := ⟨Gv, F, dm, o2, l⟩
  cases c with
  | true =>
    rw [if_pos rfl]
    exact h1 rfl yl Q Gl m γ G2 H2 σ D e a2 (en.mono e2) d
  | false =>
    rw [if_neg (fun z => nomatch z)]
    exact h2 rfl yl Q Gl m γ G2 H2 σ D e a2 (en.mono e2) d
theorem y_yield (h : EvX Γ te r) (ho : out[i]? = some r) (hn : κ.nx (i + 1) Γ M) : GWY out Γ M i (tY2 te) κ := fun yl Q Gl m γ G H σ D e a en d => by
  subst e
  obtain ⟨Gv, F, dm, o, l⟩ := a
  cases m with
  | zero => exact False.elim dm
  | succ m =>
    refine ⟨by rw [sizeLine_eq]; omega, h σ G en H o.i _ fun x G2 H2 g hx => ?_⟩
    have o2 := o.gr g
    refine dm.1 r ho x G2 H2 (feet M) _ (gw_of o2) hx fun τ' H3 e3 k3 dm3 => d.nx m _ σ G2 H3 Γ M ⟨G2, feet M, dm3, ?_, ?_⟩ (en.mono g.g) ?_
    · exact ⟨Ex.refl _, o2.l, fun b w z _ => (del_some (F := feet M) (H := H3) z).2, e3, fun _ _ _ _ y => y, fun b q => (nomatch q), fun s hs => s.loc (fun b hb w z => k3 b (mem_feet hs hb) w z) (o2.m s hs), o2.z, o2.d, fun s hs b hb => .inl (del_in (mem_feet hs hb))⟩
    · show (γ.ys ++ [x]).length + m ≤ 1000000
      rw [List.length_append, List.length_singleton]; omega
    · show κ.nx (γ.ys ++ [x]).length Γ M
      rw [List.length_append, List.length_singleton]; exact hn
theorem y_while {α : Type} (P : Nat → α → Prop) (I : α → Nat) (Γi : α → Ctx) (Mi : α → List Re) (m0 : Nat) (a0 : α) (p0 : P m0 a0) (i0 : i = I a0) (s0 : Sub Γ (Γi a0)) (e0 : M = Mi a0)
    (hs : ∀ m a, P m a → ∃ b, EXT (Γi a) (Mi a) tc (fun c M' => c = b ∧ M' = Mi a) ∧
      (b = true → GWY out (Γi a) (Mi a) (I a) t { nx := fun i' Γ' M' => ∃ m' a', m' < m ∧ P m' a' ∧ i' = I a' ∧ Sub Γ' (Γi a') ∧ M' = Mi a', ct := fun i' Γ' M' => ∃ m' a', m' < m ∧ P m' a' ∧ i' = I a' ∧ Sub Γ' (Γi a') ∧ M' = Mi a', bk := κ.nx, rt := κ.rt }) ∧ (b = false → κ.nx (I a) (Γi a) (Mi a))) : GWY out Γ M i (tWh2 tc t) κ := fun yl Q Gl n γ G H σ D e a en d =>
  ⟨fun m γ' σ' H' => ∃ n' G' b, P m b ∧ γ'.ys.length = I b ∧ At yl Q out Gl n' γ' G' H' (Mi b) ∧ En σ' G' (Γi b), ⟨m0, n, G, a0, p0, e.trans i0, e0 ▸ a, en.weak s0⟩, fun m γ' σ' H' ⟨n1, G1, b, pb, ib, a1, en1⟩ => by
    obtain ⟨c, hb, h1, h2⟩ := hs m b pb
    obtain ⟨Gv, F, dm, o, l⟩ := a1
    refine hb _ G1 H' σ' o en1 _ fun c' G2 H2 M2 z o2 e2 => ?_
    obtain ⟨rfl, rfl⟩ := z
    have a2 : At yl Q out Gl n1 γ' G2 H2 (Mi b) := ⟨Gv, F, dm, o2, l⟩
    cases c' with
    | true =>
      rw [if_pos rfl]
      have fin : ∀ n2 γ2 σ2 G3 H3 Γ3 M3, At yl Q out Gl n2 γ2 G3 H3 M3 → En σ2 G3 Γ3 → (∃ m' a', m' < m ∧ P m' a' ∧ γ2.ys.length = I a' ∧ Sub Γ3 (Γi a') ∧ M3 = Mi a') → ∃ m', m' < m ∧ ∃ n' G' b, P m' b ∧ γ2.ys.length = I b ∧ At yl Q out Gl n' γ2 G' H3 (Mi b) ∧ En σ2 G' (Γi b) := fun n2 γ2 σ2 G3 H3 Γ3 M3 a3 en3 ⟨m', a', hm, pa', ia', sa', ma'⟩ => ⟨m', hm, n2, G3, a', pa', ia', ma' ▸ a3, en3.weak sa'⟩
      refine ⟨fun γ2 σ2 H3 => ∃ m', m' < m ∧ ∃ n' G' b, P m' b ∧ γ2.ys.length = I b ∧ At yl Q out Gl n' γ2 G' H3 (Mi b) ∧ En σ2 G' (Γi b), fun γ2 σ2 H3 z => z, ?_⟩
      exact h1 rfl yl Q Gl n1 γ' G2 H2 σ' _ ib a2 (en1.mono e2) ⟨fun n2 γ2 σ2 G3 H3 Γ3 M3 a3 en3 z => fin n2 γ2 σ2 G3 H3 Γ3 M3 a3 en3 z, d.rt, d.nx, fun n2 γ2 σ2 G3 H3 Γ3 M3 a3 en3 z => fin n2 γ2 σ2 G3 H3 Γ3 M3 a3 en3 z⟩
    | false =>
      rw [if_neg (fun z => nomatch z)]
      exact d.nx n1 γ' σ' G2 H2 _ _ a2 (en1.mono e2) (by rw [ib]; exact h2 rfl)⟩
theorem ok_del0 {G H : Hp} (e : Ex G H) : Ok ⟨G, del [] H, [], G⟩ G H [] where
  g := Ex.refl _
  l := Ex.refl _
  h := fun b w z _ => (del_some (F := []) (H := H) z).2
  i := e
  n := fun _ _ _ _ y => y
  k := fun _ h => (nomatch h)
  m := fun _ h => (nomatch h)
  z := fun _ h => (nomatch h)
  d := List.nodup_nil
  f := fun _ h => (nomatch h)
theorem run_Y {yl : YL} {Q : QL} {m : Nat} {γ : Gh} {G : Hp} {σ : L2.St} (w : GWY out Γ [] 0 t { nx := fun i _ _ => out[i]? = none, rt := fun i r _ => r = rV .non ∧ out[i]? = none }) (hy : γ.ys = []) (e : Ex G γ.Hr) (hm : m ≤ 1000000) (dm : DEM yl Q out m γ G []) (en : En σ G Γ) :
    t yl { nx := fun γ _ H' => Q γ H', rt := fun γ v H' => v = .non ∧ Q γ H' } γ σ γ.Hr := by
  have fin : ∀ {m' γ' G' H' M'}, At yl Q out G m' γ' G' H' M' → out[γ'.ys.length]? = none → Q γ' H' := fun {m' γ' G' H' M'} ⟨Gv, F, d, o, _⟩ z => by
    cases m' with
    | zero => exact False.elim d
    | succ m' => exact d.2 z _ _ _ (gw_of o)
  refine w yl Q G m γ G γ.Hr σ _ (by rw [hy]; rfl) ⟨G, [], dm, ok_del0 e, by rw [hy]; show 0 + m ≤ _; omega⟩ en ⟨fun m' γ' σ' G' H' Γ' M' a _ z => fin a z, fun m' γ' v G' H' r M' a hv z => ?_, fun _ _ _ _ _ _ _ _ _ z => z.elim, fun _ _ _ _ _ _ _ _ _ z => z.elim⟩
  · obtain ⟨rfl, z⟩ := z
    obtain rfl : v = V.non := hv
    exact ⟨rfl, fin a z⟩
end
def spYl (R : List V → Hp → List Rp → Prop) : SpY := fun vs γ yl Q => ∃ G out m, γ.ys = [] ∧ Ex G γ.Hr ∧ R vs G out ∧ m ≤ 1000000 ∧ DEM yl Q out m γ G []
def napR (F : List Addr) (H0 : Hp) : Re where
  own := false
  ft := F
  p := fun _ H => ∀ a ∈ F, ∃ o, H0 a = some o ∧ Mt o ∧ H a = some o
  mono := fun _ h => h
  loc := fun k h a ha => by
    obtain ⟨o, h1, h2, h3⟩ := h a ha
    exact ⟨o, h1, h2, k a ha o h3⟩
  at_ := fun h a ha => by
    obtain ⟨o, _, h2, h3⟩ := h a ha
    exact ⟨o, h3, h2⟩
structure Cons (B : Ba) (Gc Hr : Hp) (M : List Re) (Gg : Hp) (F : List Addr) : Prop where
  ok : Ok B Gc Hr M
  sub : Ex Gg Gc
  f : ∀ x ∈ F, Gc x = none ∧ B.H0 x = none ∧ x ∉ B.F ∧ x ∉ feet M
section
variable {B : Ba} {Gc Hr Gg G1 H1 G' H' : Hp} {M M' : List Re} {F F1 : List Addr}
theorem Cons.turn (c : Cons B Gc Hr M Gg F) (w : Gw Gg Hr F G1 H1 F1) : Ok (B.low (un Gc G1)) (un Gc G1) H1 (M ++ [napR F1 H1]) ∧ Ex Gc (un Gc G1) ∧ Ex G1 (un Gc G1) ∧ ∀ x ∈ F1, B.H0 x = none ∧ x ∉ B.F := by
  have o := c.ok
  have eC : Ex Gc H1 := fun a u z => w.h a u (o.i a u z) fun q => by rw [(c.f a q).1] at z; cases z
  have e2 : Ex G1 (un Gc G1) := ex_un_r eC w.i
  have out : ∀ a u, Hr a = some u → Mt u → a ∉ F → Gc a = none → un Gc G1 a = none := fun a u z t n y => by
    rw [un_r y]
    exact w.n a u z t n (fresh_back c.sub y)
  have nF : ∀ r ∈ M, ∀ a ∈ r.ft, a ∉ F := fun r hr a ha q => (c.f a q).2.2.2 (mem_feet hr ha)
  have o1 : Ok B (un Gc G1) H1 M := by
    refine ⟨o.g.trans ex_un_l, o.l.trans ex_un_l, fun a u z n => w.h a u (o.h a u z n) (fun q => by rw [(c.f a q).2.1] at z; cases z), un_in eC w.i, fun a u z t y => ?_, fun a ha => ?_, fun r hr => ?_, fun a ha => ?_, o.d, o.f⟩
    · have nf : a ∉ F := fun q => by rw [(c.f a q).2.1] at z; cases z
      by_cases hb : a ∈ B.F
      · obtain ⟨u2, z2, t2⟩ := o.k a hb
        exact out a u2 z2 t2 nf (o.n a u z t y)
      · exact out a u (o.h a u z hb) t nf (o.n a u z t y)
    · obtain ⟨u, z, t⟩ := o.k a ha
      exact ⟨u, w.h a u z fun q => (c.f a q).2.2.1 ha, t⟩
    · exact r.loc (fun a ha u z => w.h a u z (nF r hr a ha)) (r.mono ex_un_l (o.m r hr))
    · obtain ⟨r, hr, hf⟩ := List.mem_flatMap.mp ha
      obtain ⟨u, z, t⟩ := r.at_ (o.m r hr) a hf
      exact out a u z t (nF r hr a hf) (o.z a ha)
  have hF1 : ∀ x ∈ F1, Gc x = none ∧ B.H0 x = none ∧ x ∉ B.F ∧ x ∉ feet M := fun x hx => by
    rcases (w.f x hx).2.2 with q | q
    · exact c.f x q
    · refine ⟨fresh_back o.i q, ?_, fun hb => ?_, fun hm => ?_⟩
      · cases z : B.H0 x with
        | none => rfl
        | some u =>
          by_cases hb : x ∈ B.F
          · obtain ⟨u2, z2, _⟩ := o.k x hb
            rw [q] at z2; cases z2
          · have := o.h x u z hb
            rw [q] at this; cases this
      · obtain ⟨u2, z2, _⟩ := o.k x hb
        rw [q] at z2; cases z2
      · obtain ⟨r, hr, hf⟩ := List.mem_flatMap.mp hm
        obtain ⟨u, z, _⟩ := r.at_ (o.m r hr) x hf
        rw [q] at z; cases z
  refine ⟨?_, ex_un_l, e2, fun x hx => ⟨(hF1 x hx).2.1, (hF1 x hx).2.2.1⟩⟩
  have o2 : Ok (B.low (un Gc G1)) (un Gc G1) H1 M := o1.low (Ex.refl _)
  refine ⟨o2.g, o2.l, o2.h, o2.i, o2.n, o2.k, fun r hr => ?_, fun a ha => ?_, ?_, fun r hr a ha => ?_⟩
  · rcases List.mem_append.mp hr with q | q
    · exact o2.m r q
    · rw [List.mem_singleton.mp q]
      intro a ha
      obtain ⟨u, z, t⟩ := (w.f a ha).2.1
      exact ⟨u, z, t, z⟩
  · rw [feet_snoc] at ha
    rcases List.mem_append.mp ha with q | q
    · exact o2.z a q
    · rw [un_r (hF1 a q).1]; exact (w.f a q).1
  · rw [feet_snoc]
    refine List.nodup_append.mpr ⟨o2.d, w.nd, fun a ha b hb e => ?_⟩
    subst e
    exact (hF1 a hb).2.2.2 ha
  · rcases List.mem_append.mp hr with q | q
    · exact o2.f r q a ha
    · rw [List.mem_singleton.mp q] at ha
      exact .inl (hF1 a ha).2.1
theorem erase_last {α : Type} : ∀ {l : List α} {x : α}, (l ++ [x]).eraseIdx l.length = l
  | [], _ => rfl
  | a :: l, x => by
    show a :: (l ++ [x]).eraseIdx l.length = a :: l
    rw [erase_last]
theorem Ok.unnap {R : Re} (o : Ok B G' H' (M' ++ [R])) : Ok B G' H' M' := by
  have := o.drop (k := M'.length)
  rw [erase_last] at this
  exact this
theorem Cons.again {Gl : Hp} (o : Ok (B.low Gl) G' H' (M' ++ [napR F1 H1])) (el : Ex B.Gl Gl) (e : Ex G1 Gl) (hf : ∀ x ∈ F1, B.H0 x = none ∧ x ∉ B.F) : Cons B G' H' M' G1 F1 ∧ Ex G1 H' ∧ ∀ a ∈ F1, ∀ u, H1 a = some u → H' a = some u := by
  have e1 : Ex G1 G' := e.trans o.l
  have hd := o.d
  rw [feet_snoc] at hd
  refine ⟨⟨(Ok.unnap o).up el, e1, fun x hx => ⟨o.z x (by rw [feet_snoc]; exact List.mem_append_right _ hx), (hf x hx).1, (hf x hx).2, fun hm => (List.nodup_append.mp hd).2.2 x hm x hx rfl⟩⟩, e1.trans o.i, fun a ha u z => ?_⟩
  obtain ⟨u2, h1, _, h3⟩ := o.m (napR F1 H1) (List.mem_append_right _ (List.mem_singleton.mpr rfl)) a ha
  rw [z] at h1; cases h1
  exact h3
end
end Mu

namespace Mu
open PySem PySem.Spec PyProof.Rows L2 He Evl StX GenW
def Offers (G : Hp) (out : List Rp) (pr : Gh → YL → QL → Prop) : Prop := ∀ γ yl Q m G3, γ.ys = [] → Ex G G3 → Ex G3 γ.Hr → m ≤ 1000000 → DEM yl Q out m γ G3 [] → pr γ yl Q
def EvY (Γ : Ctx) (tg : TGy) (out : List Rp) : Prop := ∀ σ G, En σ G Γ → ∀ H, Ex G H → ∀ κ : (Gh → YL → QL → Prop) → Hp → Prop, (∀ pr G2 H2, Gr G H G2 H2 → Offers G2 out pr → κ pr H2) → tg σ H κ
def EY (W : WX) (Γ : Ctx) (M : List Re) (tg : TGy) (κ : List Rp → List Re → Prop) (ε : KX) : Prop := ∀ B G H σ, Ok B G H M → En σ G Γ → ∀ K : (Gh → YL → QL → Prop) → Hp → Prop, (∀ pr G' H' out M', κ out M' → Ok B G' H' M' → Ex G G' → Offers G' out pr → K pr H') → GoX B G ε W σ → tg σ H K
section
variable {W : WX} {Γ : Ctx} {M : List Re} {te : TE} {ta : TA} {tg : TGy} {rs out outs : List Rp} {R : List V → Hp → List Rp → Prop} {n j : Nat} {C : Addr} {f : Str} {K : PySem.W.Frag} {ε : KX} {κ : KV} {r0 : Rp}
theorem offers_of {G : Hp} {vs : List V} (h : ∀ G3, Ex G G3 → R vs G3 out) : Offers G out (fun γ yl Q => spYl R vs γ yl Q) := fun γ yl Q m G3 h1 e1 e2 hm dm => ⟨G3, out, m, h1, e2, h G3 e1, hm, dm⟩
theorem y_call (ha : EvAX Γ ta rs) (hn : rs.length = n) (h : ∀ vs G, RA G vs rs → R vs G out) : EvY Γ (tCallY (spYl R) n ta) out := fun σ G en H e κ q =>
  ha σ G en H e _ fun vs G2 H2 g ra => ⟨by rw [ra.len, hn], q _ G2 H2 g (offers_of fun G3 e3 => h vs G3 (ra.mono e3))⟩
theorem e_yc {κ : List Rp → List Re → Prop} (h : EA W Γ M ta (fun rs M1 => rs.length = n ∧ ∃ out, (∀ vs G, RA G vs rs → R vs G out) ∧ κ out M1) ε) : EY W Γ M (tCallY (spYl R) n ta) κ ε := fun B G H σ o en K q x =>
  h B G H σ o en _ (fun vs G1 H1 rs M1 ⟨hn, out, hR, k⟩ o1 e1 ra => ⟨by rw [ra.len, hn], q _ G1 H1 out M1 k o1 e1 (offers_of fun G3 e3 => hR vs G3 (ra.mono e3))⟩) x
theorem set_last {α : Type} : ∀ {l : List α} {a b c : α}, ((l ++ [a]) ++ [b]).set l.length c = (l ++ [c]) ++ [b]
  | [], _, _, _ => rfl
  | x :: l, a, b, c => by
    show x :: (((l ++ [a]) ++ [b]).set l.length c) = _
    rw [set_last]; rfl
theorem get_last {α : Type} : ∀ {l : List α} {a b : α}, ((l ++ [a]) ++ [b])[l.length]? = some a
  | [], _, _ => rfl
  | x :: l, a, b => by
    show ((l ++ [a]) ++ [b])[l.length]? = some a
    exact get_last
theorem dem_list {B : Ba} {S : Addr} {σ : L2.St} {Qf : VK} (hl : out.length < 50000) (q : ∀ G' H', Ok B G' H' (M ++ [lstR S out]) → Qf (.ref S) H') :
    ∀ (m : Nat) (γ : Gh) (Gc Gg : Hp) (F : List Addr), γ.τ = σ → γ.ys.length + m = out.length + 1 → γ.ys.length ≤ out.length → Cons B Gc γ.Hr (M ++ [lstR S (out.take γ.ys.length)]) Gg F → Ex B.Gl Gc → DEM (ylLst S σ) (fun γ H2 => γ.τ = σ ∧ Qf (.ref S) H2) out m γ Gg F := by
  intro m
  induction m with
  | zero => intro γ Gc Gg F _ h1 h2 _ _; omega
  | succ m ih =>
    intro γ Gc Gg F hτ h1 h2 c el
    refine ⟨fun r hr x G1 H1 F1 C w hx hC => ?_, fun hn G1 H1 F1 w => ?_⟩
    · have hi : γ.ys.length < out.length := (List.getElem?_eq_some_iff.mp hr).1
      obtain ⟨o2, eC, e1, hf⟩ := c.turn w
      have hk : ((M ++ [lstR S (out.take γ.ys.length)]) ++ [napR F1 H1])[M.length]? = some (lstR S (out.take γ.ys.length)) := get_last
      obtain ⟨ws, hS, ra⟩ := o2.m _ (List.mem_of_getElem? hk)
      have gS : (un Gc G1) S = none := o2.z S (mem_feet (List.mem_of_getElem? hk) (List.mem_singleton.mpr rfl))
      have hw : ws.length = γ.ys.length := by rw [ra.len, List.length_take]; omega
      refine ⟨hτ, ws, hS, by rw [sizeLine_eq]; omega, ?_⟩
      have o3 := o2.chg (R' := lstR S (out.take γ.ys.length ++ [r])) (G2 := un Gc G1) (H2 := upd H1 S (.lst (ws ++ [x]))) hk rfl rfl (Ex.refl _) (fun a u z n => by rw [upd_ne fun e => n (List.mem_singleton.mpr e)]; exact z) (Ex.mut o2.i gS) (fun _ _ _ _ y => y) ⟨ws ++ [x], upd_same, ra.snoc (r.mono e1 hx)⟩
      rw [set_last] at o3
      obtain ⟨c2, k1, k2⟩ := Cons.again o3 (el.trans eC) e1 hf
      refine hC σ _ k1 k2 (ih ⟨γ.ys ++ [x], σ, _⟩ _ G1 F1 rfl ?_ ?_ ?_ (el.trans eC))
      · show (γ.ys ++ [x]).length + m = _
        rw [List.length_append, List.length_singleton]; omega
      · show (γ.ys ++ [x]).length ≤ _
        rw [List.length_append, List.length_singleton]; omega
      · show Cons B _ _ (M ++ [lstR S (out.take (γ.ys ++ [x]).length)]) G1 F1
        rw [List.length_append, List.length_singleton, List.take_add_one, hr]
        exact c2
    · obtain ⟨o2, eC, e1, hf⟩ := c.turn w
      refine ⟨hτ, q (un Gc G1) H1 ?_⟩
      have hi : γ.ys.length = out.length := by
        have := List.getElem?_eq_none_iff.mp hn
        omega
      have o3 := (Ok.unnap o2).up (el.trans eC)
      rw [hi, List.take_length] at o3
      exact o3
theorem e_lstY (h : EY W Γ M tg (fun out M1 => out.length < 50000 ∧ ∀ p, κ (rV (.ref p)) (M1 ++ [lstR p out])) ε) : EW W Γ M (tListY tg) κ ε := fun B G H σ o en Q q x =>
  h B G H σ o en _ (fun pr G1 H1 out M1 ⟨hl, k⟩ o1 e1 ho S hS => by
    have gS := fresh_back o1.i hS
    have g3 := Gr.out (o := .lst []) o1.i hS
    have o2 := o1.add (R := lstR S []) g3 (show [S].Nodup by simp) (fun a ha => by rw [List.mem_singleton.mp ha]; exact ⟨hS, gS⟩) ⟨[], upd_same, .nil⟩
    have key : ∀ G' H', Ok (B.low G1) G' H' (M1 ++ [lstR S out]) → Q (.ref S) H' := fun G' H' o' => q (.ref S) G' H' _ _ (k S) (o'.up o1.l) (e1.trans o'.l) rfl
    refine ho _ _ _ (out.length + 1) G1 rfl (Ex.refl _) o2.i (by omega) (dem_list (B := B.low G1) (M := M1) hl key (out.length + 1) ⟨[], σ, _⟩ G1 G1 [] rfl (by show 0 + _ = _; omega) (Nat.zero_le _) ⟨o2.low (Ex.refl _), Ex.refl _, fun x hx => nomatch hx⟩ (Ex.refl _))) x
theorem xn_listY (h : EvY Γ tg out) (hl : out.length < 50000) : EvNX Γ (tListY tg) out := fun σ G en H e Q q =>
  h σ G en H e _ fun pr G1 H1 g ho S hS => by
    have gS := fresh_back g.i hS
    have g3 := Gr.out (o := .lst []) g.i hS
    have o1 : Ok ⟨G1, H1, [], G1⟩ G1 H1 [] := Ok.nil g.i
    have o2 := o1.add (R := lstR S []) g3 (show [S].Nodup by simp) (fun a ha => by rw [List.mem_singleton.mp ha]; exact ⟨hS, gS⟩) ⟨[], upd_same, .nil⟩
    have key : ∀ G' H', Ok ⟨G1, H1, [], G1⟩ G' H' ([] ++ [lstR S out]) → Q (.ref S) H' := fun G' H' o' => by
      obtain ⟨ws, h1, h2⟩ := o'.m (lstR S out) (List.mem_singleton.mpr rfl)
      exact q S ws G' H' (g.trans o'.to) (fresh_back g.h hS) (o'.z S (mem_feet (List.mem_singleton.mpr rfl) (List.mem_singleton.mpr rfl))) h1 h2
    exact ho _ _ _ (out.length + 1) G1 rfl (Ex.refl _) o2.i (by omega) (dem_list (B := ⟨G1, H1, [], G1⟩) (M := []) hl key (out.length + 1) ⟨[], σ, _⟩ G1 G1 [] rfl (by show 0 + _ = _; omega) (Nat.zero_le _) ⟨o2, Ex.refl _, fun x hx => nomatch hx⟩ (Ex.refl _))
end
def kNap (nap : Re) (κ : Kn) : Kn where
  nx := fun Γ' M' => ∃ M2, M' = M2 ++ [nap] ∧ κ.nx Γ' M2
  rt := fun r M' => ∃ M2, M' = M2 ++ [nap] ∧ κ.rt r M2
  bk := fun Γ' M' => ∃ M2, M' = M2 ++ [nap] ∧ κ.bk Γ' M2
  ct := fun Γ' M' => ∃ M2, M' = M2 ++ [nap] ∧ κ.ct Γ' M2
  ex := fun Γ' c f M' => ∃ M2, M' = M2 ++ [nap] ∧ κ.ex Γ' c f M2
section
variable {W : WX} {Γ : Ctx} {M : List Re} {tg : TGy} {out : List Rp} {j : Nat} {tb : TS} {κ : Kn} {α : Type}
theorem w_forY (h : EvY Γ tg out) (N : Nat) (hN : N ≤ 1000000) (P : Nat → α → Prop) (Γi : Nat → α → Ctx) (Mi : Nat → α → List Re) (hP : ∀ i a, P i a → i < N) (a0 : α) (p0 : P 0 a0) (s0 : Sub Γ (Γi 0 a0)) (m0 : M = Mi 0 a0)
    (hs : ∀ i a r nap, out[i]? = some r → P i a → WP W ((Γi i a).set j (some r)) (Mi i a ++ [nap]) tb (kNap nap (kLoop (LI P Γi Mi (i + 1)) κ))) (hd : ∀ i a, P i a → out[i]? = none → κ.nx (Γi i a) (Mi i a)) : WP W Γ M (tForY tg (gName j) tb) κ := fun B G H σ D o en d => by
  refine h σ G en H o.i _ fun pr G1 H1 g ho => ?_
  have dem : ∀ (m : Nat) (γ : Gh) (a : α) (Gc Gg : Hp) (F : List Addr), γ.ys.length + m = N → P γ.ys.length a → Cons B Gc γ.Hr (Mi γ.ys.length a) Gg F → Ex B.Gl Gc → En γ.τ Gc (Γi γ.ys.length a) → DEM (ylFor (gName j) tb D) (fun γ H2 => D.nx γ.τ H2) out m γ Gg F := by
    intro m
    induction m with
    | zero => intro γ a Gc Gg F h1 h2; have := hP _ _ h2; omega
    | succ m ih =>
      intro γ a Gc Gg F h1 pa c el en1
      refine ⟨fun r hr x G2 H2 F2 C w hx hC => ?_, fun hn G2 H2 F2 w => ?_⟩
      · obtain ⟨o2, eC, e2, hf⟩ := c.turn w
        have el2 : Ex B.Gl (un Gc G2) := el.trans eC
        have go : ∀ σ' G' H' Γ' M', Ok (B.low (un Gc G2)) G' H' M' → En σ' G' Γ' → (∃ M2, M' = M2 ++ [napR F2 H2] ∧ LI P Γi Mi (γ.ys.length + 1) Γ' M2) → C σ' H' := fun σ' G' H' Γ' M' o' en' z => by
          obtain ⟨M2, rfl, a', pa', sa', rfl⟩ := z
          obtain ⟨c2, k1, k2⟩ := Cons.again o' el2 e2 hf
          have el : (γ.ys ++ [x]).length = γ.ys.length + 1 := by rw [List.length_append, List.length_singleton]
          refine hC σ' H' k1 k2 (ih ⟨γ.ys ++ [x], σ', H'⟩ a' G' G2 F2 ?_ ?_ ?_ (el2.trans o'.l) ?_)
          · show (γ.ys ++ [x]).length + m = N
            rw [el]; omega
          · show P (γ.ys ++ [x]).length a'
            rw [el]; exact pa'
          · show Cons B G' H' (Mi (γ.ys ++ [x]).length a') G2 F2
            rw [el]; exact c2
          · show En σ' G' (Γi (γ.ys ++ [x]).length a')
            rw [el]; exact en'.weak sa'
        refine hs _ a r (napR F2 H2) hr pa (B.low (un Gc G2)) (un Gc G2) H2 (γ.τ.set j (some x)) _ o2 ((en1.mono eC).set (r.mono e2 hx) j) ⟨fun σ' G' H' Γ' M' o' en' z => go σ' G' H' Γ' M' o' en' z, fun v G' H' r' M' o' hv z => ?_, fun σ' G' H' Γ' M' o' en' z => ?_, fun σ' G' H' Γ' M' o' en' z => go σ' G' H' Γ' M' o' en' z, fun σ' G' H' Γ' M' cls dd fs o' en' xd z => ?_⟩
        · obtain ⟨M2, rfl, z⟩ := z
          exact d.rt v G' H' r' M2 ((Ok.unnap o').up el2) hv z
        · obtain ⟨M2, rfl, z⟩ := z
          exact d.nx σ' G' H' Γ' M2 ((Ok.unnap o').up el2) en' z
        · obtain ⟨M2, rfl, z⟩ := z
          exact d.ex σ' G' H' Γ' M2 cls dd fs ((Ok.unnap o').up el2) en' xd z
      · obtain ⟨o2, eC, e2, hf⟩ := c.turn w
        exact d.nx _ _ H2 _ _ ((Ok.unnap o2).up (el.trans eC)) (en1.mono eC) (hd _ a pa hn)
  have o1 := o.gr g
  refine ho ⟨[], σ, H1⟩ _ _ N G1 rfl (Ex.refl _) o1.i hN (dem N ⟨[], σ, H1⟩ a0 G1 G1 [] (Nat.zero_add _) p0 ⟨m0 ▸ o1, Ex.refl _, fun x hx => nomatch hx⟩ o1.l ((en.mono g.g).weak s0))
end
section
variable {out : List Rp} {Γ : Ctx} {M : List Re} {i j : Nat} {t : TG2} {tl : TE} {κ : GKy} {K : PySem.W.Frag} {α β : Type}
end
end Mu

namespace Mu
open PySem PySem.Spec PyProof.Rows L2 He Evl StX GenW
theorem pg_yt {X : Cx} {tg : Expr} (K : PySem.W.Frag) {n : Nat} {g : TGs} (h : PG X tg (gTup X.K n g)) (hK : X.K = K := by rfl) : PG X tg (gTup K n g) := hK ▸ h
theorem pe_yb {X : Cx} {ex : Expr} (K : PySem.W.Frag) {S : String} {rr : V → List V → Hp → VK → Prop} {to : TE} {ta : TA} (h : PE X ex (tBM X.K S rr to ta)) (hK : X.K = K := by rfl) : PE X ex (tBM K S rr to ta) := hK ▸ h
theorem pe_yb0 {X : Cx} {ex : Expr} (K : PySem.W.Frag) {S : String} {rr : V → List V → Hp → VK → Prop} {to : TE} (h : PE X ex (tBM0 X.K S rr to)) (hK : X.K = K := by rfl) : PE X ex (tBM0 K S rr to) := hK ▸ h
section
variable {P : Program} {w : World} {K : PySem.W.Frag} {mg : Str → Option Value} {base : Heap} {x qual : Str} {params : Arguments} {body : List Stmt} {scope : Scope} {dvs : List V} {kws : List (Str × V)} {f : Addr} {fd : FuncData}
theorem okGY {N ps : List Str} {k : Nat} {R : List V → Hp → List Rp → Prop} (F : FunD K x qual params body scope dvs kws f fd) (S : YScope N ps scope) (len : ∀ vs γ yl Q, spYl R vs γ yl Q → vs.length = ps.length)
    (hbody : ∀ (cdv : Value) (A : Around) (outer : List Env) (pn : List (Addr × Obj)) (L : Addr) (E : List Addr), Room k (A.deeper (envOfC qual scope L f cdv)) → Fit ⟨P, w, K, mg, base, N, qual, scope, f, cdv, A, outer, pn, L, E⟩ →
      ∃ t, G2s ⟨P, w, K, mg, base, N, qual, scope, f, cdv, A, outer, pn, L, E⟩ body t ∧ ∀ vs γ yl Q, spYl R vs γ yl Q → t yl { nx := fun γ _ H' => Q γ H', rt := fun γ v H' => v = .non ∧ Q γ H' } γ (start N vs) γ.Hr) : GnY P w K mg base (k + 1) f fd ps (spYl R) := by
  obtain ⟨oc, od, dV, kV, doc, pm, an, cdv, ct, osl, rfl, lk, hcd, _, _⟩ := F.ex
  refine gy_of lk hcd S len fun A outer pn L E hr hF => ?_
  obtain ⟨t, h1, h2⟩ := hbody cdv A outer pn L E hr hF
  exact ⟨t, h1, fun vs γ yl Q _ h => h2 vs γ yl Q h⟩
end
section
variable {F : Fm} {st : Stmt} {body a b : List Stmt} {test e : Expr} {pos yp : Pos} {ts : TS} {tc : TT} {te : TE} {t u : TG2}
theorem g2_ps' (h : ∀ s H, PS (F.X s H).nox st ts) : G2 F st (tP2 ts) := g2_ps fun s H => ps_nox (h s H)
theorem g2_if' (hc : ∀ s H, PT (F.X s H).nox test tc) (ha : G2s F a t) (hb : G2s F b u) : G2 F (.If test a b pos) (tIf2 tc t u) := g2_if (fun s H => PT.nox (hc s H)) ha hb
theorem g2_while' {tb : TG2} (hc : ∀ s H, PT (F.X s H).nox test tc) (hb : G2s F body tb) : G2 F (.While test body [] pos) (tWh2 tc tb) := g2_while (fun s H => PT.nox (hc s H)) hb
theorem g2_yield' (he : ∀ s H, PE (F.X s H).nox e te) (hco : F.env.scope.isCoroutine = false := by rfl) (hi : interactive F.env = false := by rfl) : G2 F (.Expr (.Yield (some e) yp) pos) (tY2 te) := g2_yield (fun s H => PE.nox (he s H)) hco hi
end
end Mu

namespace Mu
open PySem PySem.Spec PyProof.Rows L2 He Evl StX GenW
def rSortedSA (K : PySem.W.Frag) : List V → Hp → VK → Prop := fun vs H Q => ∃ (a : Addr) (xs : List Str), vs = [V.ref a] ∧ SqL K H a (xs.map V.str) ∧
  ∀ (ys : List Str) (p : Addr), ys.Perm xs → sortedS ys = true → H p = none → Q (.ref p) (upd H p (.lst (ys.map V.str)))
theorem cr_sortedSA (K : PySem.W.Frag) {X : Cx} (hK : X.K = K := by rfl) : CallR X (.builtin "sorted") (rSortedSA K) := by
  subst hK
  intro pins s σ H vs us Q I r h
  obtain ⟨a, xs, rfl, hs, q⟩ := h
  obtain ⟨its, rv, hl, hz⟩ := I.list hs
  rw [Vals.ref1 r]
  have e1 := rv.length
  have e2 : its.length ≤ sizeLine := by
    first
      | exact hz
      | (rw [← e1]; exact hz)
  refine PyProof.Rows.sorted_strsAny hl.isList rv.strs e2 fun out ys h1 h2 h3 => ?_
  obtain ⟨ep, he⟩ := PyProof.Rows.sortedAll_at s.heap its out
  rw [List.length_map] at e1
  have hn : (ys.map V.str).length ≤ sizeLine := by rw [List.length_map, h2.length_eq, e1]; exact e2
  exact ⟨.ref _, upd H (s.heap.objs.size + 1) (.lst (ys.map V.str)), I.laid (t' := s.toks) (fun _ _ => PyProof.Rows.sortedAll_old) (Nat.le_succ _) ⟨hn, out.toList, ep, vals_of_strs h1, he⟩, rfl, q ys _ h2 h3 (I.hok.fresh (Nat.le_succ _))⟩
theorem le_antiW {a b : List Nat} (h1 : ¬ b < a) (h2 : ¬ a < b) : a = b := List.le_antisymm (show a ≤ b from h1) (show b ≤ a from h2)
theorem uniqW : ∀ {a b : List (List Nat)}, a.Perm b → a.Pairwise (fun x y => ¬ y < x) → b.Pairwise (fun x y => ¬ y < x) → a = b
  | [], b, h, _, _ => (List.nil_perm.mp h).symm
  | x :: a, [], h, _, _ => absurd h.length_eq (by simp)
  | x :: a, y :: b, h, ha, hb => by
    obtain ⟨a1, a2⟩ := List.pairwise_cons.mp ha
    obtain ⟨b1, b2⟩ := List.pairwise_cons.mp hb
    have e : x = y := by
      rcases List.mem_cons.mp (h.mem_iff.mp (List.mem_cons_self (a := x) (l := a))) with z | z
      · exact z
      · rcases List.mem_cons.mp (h.mem_iff.mpr (List.mem_cons_self (a := y) (l := b))) with u | u
        · exact u.symm
        · exact le_antiW (a1 y u) (b1 x z)
    subst e
    rw [uniqW (List.Perm.cons_inv h) a2 b2]
theorem rising_W : ∀ {l : List (List Nat)} {p : List Nat}, risingS (sL p) (l.map sL) = true → (p :: l).Pairwise (fun x y => ¬ y < x)
  | [], p, _ => by simp
  | x :: l, p, h => by
    have h : (!ltCps (sL x).cps.toList (sL p).cps.toList && risingS (sL x) (l.map sL)) = true := h
    obtain ⟨h1, h2⟩ := Bool.and_eq_true_iff.mp h
    have ih := rising_W h2
    have hp : ¬ x < p := by
      rw [sL_cps, sL_cps, ltCps_eq] at h1
      simpa using h1
    refine List.pairwise_cons.mpr ⟨fun y hy => ?_, ih⟩
    rcases List.mem_cons.mp hy with e | e
    · rw [e]; exact hp
    · have h3 : ¬ y < x := (List.pairwise_cons.mp ih).1 y e
      intro z
      by_cases u : p < x
      · exact h3 (List.lt_trans z u)
      · have : x = p := le_antiW u hp
        rw [← this] at z
        exact h3 z
theorem sortedS_W : ∀ {l : List (List Nat)}, sortedS (l.map sL) = true → l.Pairwise (fun x y => ¬ y < x)
  | [], _ => List.Pairwise.nil
  | _ :: _, h => rising_W h
theorem perm_sL {ys : List Str} {l : List (List Nat)} (h : ys.Perm (l.map sL)) : ∃ l2 : List (List Nat), ys = l2.map sL ∧ l2.Perm l := by
  refine ⟨ys.map fun s => s.cps.toList, ?_, ?_⟩
  · rw [List.map_map]
    conv => lhs; rw [← List.map_id ys]
    refine List.map_congr_left fun s _ => ?_
    exact (sL_of s).symm
  · have z := h.map fun s => s.cps.toList
    rw [List.map_map] at z
    have e : l.map ((fun s : Str => s.cps.toList) ∘ sL) = l := by
      conv => rhs; rw [← List.map_id l]
      exact List.map_congr_left fun c _ => rfl
    rwa [e] at z
section
variable {Γ : Ctx} {te ts : TE} {K : PySem.W.Frag} {l r : List (List Nat)}
theorem ra_vals_eqS {G : Hp} {ws : List V} {xs : List Str} (h : RA G ws (xs.map fun s => rV (.str s))) : ws = xs.map V.str := by
  induction xs generalizing ws with
  | nil => cases h; rfl
  | cons x xs ih =>
    cases h with
    | cons a b =>
      have a : _ = V.str x := a
      rw [a, ih b]; rfl
theorem ra_valsS {G : Hp} {xs : List Str} : RA G (xs.map V.str) (xs.map fun s => rV (.str s)) := by
  induction xs with
  | nil => exact .nil
  | cons x xs ih => exact .cons rfl ih
theorem xn_sortW (h : EvX Γ te (rL K (l.map rSt))) (hr : r.Pairwise (· < ·)) (hp : r.Perm l) : EvNX Γ (tCB (rSortedSA K) (tCons te tNil)) (r.map rSt) := fun σ G en H e Q q => h σ G en H e _ fun v G1 H1 g1 hv => by
  obtain ⟨a, ws, rfl, h1, h2⟩ := hv
  have e1 : l.map rSt = (l.map sL).map fun s => rV (.str s) := by rw [List.map_map]; rfl
  rw [e1] at h2
  have e2 := ra_vals_eqS h2
  subst e2
  refine ⟨a, l.map sL, rfl, sq_of (g1.i _ _ h1), fun ys p hpm hs hn => ?_⟩
  obtain ⟨l2, rfl, hp2⟩ := perm_sL hpm
  have e3 : l2 = r := uniqW (hp2.trans hp.symm) (sortedS_W hs) (hr.imp fun {x y} z => fun u => List.lt_irrefl x (List.lt_trans z u))
  subst e3
  refine q p _ G1 _ (g1.trans (Gr.out (o := .lst ((l2.map sL).map V.str)) g1.i hn)) (fresh_back g1.h hn) (fresh_back g1.i hn) upd_same ?_
  have e4 : l2.map rSt = (l2.map sL).map fun s => rV (.str s) := by rw [List.map_map]; rfl
  rw [e4]
  exact ra_valsS
end
end Mu

namespace Mu
open PySem PySem.Spec PyProof.Rows L2 He Evl
section
variable {W : WX} {Γ : Ctx} {M : List Re} {κ : KV} {ε : KX} {K : PySem.W.Frag} {te ts ta : TE} {rs : List Rp}
theorem x_revL (h : EvX Γ te (rL K rs)) (hs : EvX Γ ts (rI (-1))) : EvNX Γ (tRevL K te ts) rs.reverse := fun σ G en H e Q q => h σ G en H e _ fun v G1 H1 g1 hv => by
  obtain ⟨a, vs, rfl, h1, h2⟩ := hv
  refine hs σ G1 (en.mono g1.g) H1 g1.i _ fun k G2 H2 g2 hk => ?_
  obtain rfl : k = V.int (-1) := hk
  refine ⟨rfl, a, vs, rfl, sq_of (g2.i _ _ (g2.g _ _ h1)), fun p hp => ?_⟩
  have gr := g1.trans g2
  exact q p vs.reverse G2 _ (gr.trans (Gr.out (o := .lst vs.reverse) g2.i hp)) (fresh_back gr.h hp) (fresh_back g2.i hp) upd_same ((RA.mono g2.g h2).rev)
end
end Mu

namespace Mu
open PySem PySem.Spec PyProof.Rows L2 He Evl Builtin Builtin.Str Builtin.Int Builtin.Float
section
variable {prog : Program} {w : World} {A : Around} {E : Value → Shared → Prop} {s : Shared}
end
section
variable {Γ : Ctx} {te ts ta tb : TE} {n : Nat} {z : Str} {K : PySem.W.Frag}
end
end Mu

namespace Mu
open PySem PySem.Spec PyProof.Rows L2 He Evl
section
variable {prog : Program} {w : World} {A : Around} {E : Value → Shared → Prop} {s : Shared} {K : PySem.W.Frag} {C f x : Addr} {ox : Obj} {od : Option Obj}
end
section
variable {X : Cx} {CX : CXT} {k : Nat} {f C : Addr} {fd : FuncData} {ps : List Str} {sp : Sp} {E : XK}
end
section
variable {X : Cx} {CX : CXT} {k : Nat} {f C : Addr} {fd : FuncData} {ps : List Str} {sp : Sp} {E : XK}
end
section
variable {W : WX} {Γ : Ctx} {M : List Re} {κ : KV} {ε : KX} {sp : Sp} {C : Addr} {r0 : Rp}
end
end Mu

namespace Mu
open PySem PySem.Spec PyProof.Rows L2 He Evl
section
variable {X : Cx} {CX : CXT} {k : Nat} {f C : Addr} {fd : FuncData} {ps : List Str} {sp : Sp} {E : XK}
end
end Mu

namespace Mu
open PySem PySem.Spec PyProof.Rows L2 He Evl
section
variable {prog : Program} {w : World} {A : Around} {E : Value → Shared → Prop} {s : Shared} {K : PySem.W.Frag} {C f x : Addr} {ox : Obj} {od : Option Obj} {b tb : Value}
end
section
variable {X : Cx} {CX : CXT} {k : Nat} {f C : Addr} {fd : FuncData} {ps : List Str} {sp : Sp} {E : XK} {K : PySem.W.Frag}
end
section
variable {X : Cx} {K : PySem.W.Frag} {Γ : Ctx} {te : TE} {rs : List Rp}
end
end Mu

namespace Mu
open PySem PySem.Spec PyProof.Rows L2 He Evl
section
variable {X : Cx} {CX : CXT} {k : Nat} {f C : Addr} {fd : FuncData} {ps : List Str} {sp : Sp} {E : XK}
end
section
variable {W : WX} {Γ : Ctx} {M : List Re} {κ : KV} {ε : KX} {sp : Sp} {C : Addr} {te : TE}
end
end Mu

namespace Mu
open PySem PySem.Spec PyProof.Rows L2 He Evl StX
section
variable {B : Ba} {G H G2 H2 : Hp} {M : List Re} {W : WX} {Γ Γ' Γ1 : Ctx} {te ta tb tl : TE} {t : TT} {K : PySem.W.Frag} {κ : KV} {ε : KX} {r r0 : Rp} {rs rs0 : List Rp} {i j k n : Nat} {p C : Addr} {fs : FL} {vs : List Nat} {lk : HO → Bool}
variable {cs : Addr → Bool}
end
end Mu

namespace Mu
open PySem PySem.Spec PyProof.Rows L2 He Evl PySem.Froz
structure TxS (P : Program) (w : World) (D : SD) (l : List Str) : Prop where
  ok : TxOk P w D l
  ris : Ris D.2.2.place.toList
  led : w.params.followText "set-order" = true ∨ D.2.2.led = true
  nd : l.Nodup
section
variable {P : Program} {w : World} {D : SD} {l : List Str} {k : Str}
theorem TxS.zero : TxS P w (#[], 0, .fresh 0 0 (!w.params.followText "set-order")) [] where
  ok := TxOk.nil (by rfl)
  ris := List.Pairwise.nil
  led := by
    show _ ∨ (!w.params.followText "set-order") = true
    cases w.params.followText "set-order" <;> simp
  nd := List.nodup_nil
theorem tail_ris {ep : Nat} {es : Array (Int × Value)} {t : SetTable} {b : Bool} (r : Ris t.place.toList) : Ris (tailTx ep es t b).2.2.place.toList := by
  unfold tailTx
  split
  · exact relayAll_ris t es _
  · exact r
theorem tail_led {ep : Nat} {es : Array (Int × Value)} {t : SetTable} {b : Bool} : (tailTx ep es t b).2.2.led = t.led := by
  unfold tailTx
  split
  · exact relayAll_led t es _
  · rfl
theorem TxS.add (F : TxS P w D l) (hk : k ∉ l) (u : Tok) : TxS P w (addTx (hashStr w k) (.str k u) D) (k :: l) where
  ok := add_ok u F.ok
  ris := by
    refine tail_ris ?_
    have h := layNew_ris D.2.2 D.1 (hashStr w k) (.str k u) F.ris
    split <;> exact h
  led := by
    have h := layNew_led D.2.2 D.1 (hashStr w k) (.str k u)
    refine F.led.imp id fun z => ?_
    unfold addTx
    rw [tail_led]
    split
    · show (layNew D.2.2 D.1 (hashStr w k) (.str k u)).2.1.led = true
      rw [h]; exact z
    · rw [h]; exact z
  nd := List.nodup_cons.mpr ⟨hk, F.nd⟩
end
section
variable {P : Program} {w : World} {A : Around} {E : Value → Shared → Prop} {s : Shared}
theorem add_old {a : Addr} {D : SD} {l : List Str} {k : Str} {u : Tok} {Q : Bool → Shared → Prop} (ho : s.heap.get? a = some (sObj "set" D)) (F : TxOk P w D l) (hk : k ∈ l) (hb : l.length < scanBound) (h : Q false s) : wpAny (model P w) A (setAddHashed a (.str k u) (hashStr w k)) Q E s := by
  obtain ⟨es, ep, t⟩ := D
  have d0 : (sObj "set" (es, ep, t)).data = .set es ep t := rfl
  have f0 : t.fits es.size = true := F.fit
  have e0 : ElemsOf (strKind P w) es.toList := F.el
  have b0 : es.size < scanBound := by
    have : es.size = l.length := F.sz
    omega
  have k0 : (strKind P w).is k (.str k u) = true := is_str k u
  obtain ⟨e, he, q⟩ := (F.mem k).mp hk
  unfold setAddHashed setAddHashedIn
  refine wpAny_holding (wpAny_bind (wpAny_setState_of ho d0 f0 ?_))
  dsimp only
  rw [byScan_of rfl b0 e0, if_pos rfl]
  unfold setAddByScan
  refine wpAny_bind (wpAny_bind (wpAny_rule (wpAny_bind (wpAny_setScan_of (knd := strKind P w) (k := k) k0 ho d0 f0 e0 ?_))))
  cases hf : List.findIdx? (fun e => (strKind P w).is k e.2) es.toList with
  | none =>
    have := List.findIdx?_eq_none_iff.mp hf e he
    rw [q] at this
    cases this
  | some j => exact wpAny_pure (wpAny_pure h)
def TxAt (P : Program) (w : World) (h : Heap) (S : Addr) (ws : List Str) : Prop := ∃ D l, h.get? S = some (sObj "set" D) ∧ TxS P w D l ∧ l.length ≤ ws.length ∧ ∀ x, x ∈ l ↔ x ∈ ws
theorem TxAt.at_ {h h' : Heap} {S : Addr} {ws : List Str} (t : TxAt P w h S ws) (k : ∀ o, h.get? S = some o → h'.get? S = some o) : TxAt P w h' S ws := by
  obtain ⟨D, l, h1, r⟩ := t
  exact ⟨D, l, k _ h1, r⟩
theorem tx_step {S : Addr} {ws : List Str} {k : Str} {u : Tok} {Q : Bool → Shared → Prop} (t : TxAt P w s.heap S ws) (hb : ws.length + 1 < scanBound) (h : ∀ b h', Heap.SameBut S s.heap h' → TxAt P w h' S (ws ++ [k]) → Q b { s with heap := h' }) : wpAny (model P w) A (setAddHashed S (.str k u) (hashStr w k)) Q E s := by
  obtain ⟨D, l, h1, F, hl, hm⟩ := t
  by_cases c : k ∈ l
  · refine add_old h1 F.ok c (by omega) (h false s.heap (Heap.SameBut.refl _ _) ⟨D, l, h1, F, by rw [List.length_append]; omega, fun x => ?_⟩)
    rw [List.mem_append, List.mem_singleton, hm]
    exact ⟨.inl, fun z => z.elim id fun z => (hm x).mp (z ▸ c)⟩
  · refine add_x h1 F.ok c (by omega) (h true _ (Heap.SameBut.update s.heap S _) ⟨_, k :: l, get_upd _ h1 rfl, F.add c u, by rw [List.length_cons, List.length_append]; show _ ≤ ws.length + 1; omega, fun x => ?_⟩)
    rw [List.mem_cons, List.mem_append, List.mem_singleton, hm]
    exact Or.comm
theorem tx_fill {I S : Addr} {fp wr : List Addr} {G : Array GenState → Array GenState → Prop} {n : Nat} {Pv : Nat → Value → Prop} {St : Nat → Shared → Prop} {R : Result → Shared → Prop} (W : WalksS P w A.in1 I fp wr G n Pv St) (hS : S ∉ fp) {ws : List Str} (hn : n = ws.length) (hb : ws.length + 1 < scanBound) (hv : ∀ i v, Pv i v → ∃ k t, ws[i]? = some k ∧ v = .str k t) : ∀ (m i : Nat) (s : Shared), n - i = m → i ≤ n → St i s → TxAt P w s.heap S (ws.take i) →
    (∀ s', Moved (S :: wr) G s s' → TxAt P w s'.heap S ws → R (.ok (.ret .none)) s') → codeAny (model P w) A (.builtin "set.update.loop" ⟨[.ref S, .ref I], []⟩) R s := by
  have hw : S ∉ wr := fun z => hS (W.sub _ z)
  have up : ∀ b, b ∈ wr → b ∈ S :: wr := fun b z => List.mem_cons_of_mem _ z
  intro m
  induction m with
  | zero =>
    intro i s h1 h2 st t q
    obtain rfl : i = n := by omega
    refine codeAny_builtin F.entry_set_update_loop ?_
    rw [Around.under_plainId F.plain_set_update_loop _]
    refine (show wpAny _ A.in1 (pyNext (.ref I) >>= _) _ _ s from wpAny_bind (W.done s _ _ st fun s2 mv => ?_))
    rw [List.take_of_length_le (by omega)] at t
    exact wpAny_pure (q s2 (mv.mono up) (t.at_ fun o e => mv.heap S o hw e))
  | succ m ih =>
    intro i s h1 h2 st t q
    refine codeAny_builtin F.entry_set_update_loop ?_
    rw [Around.under_plainId F.plain_set_update_loop _]
    refine (show wpAny _ A.in1 (pyNext (.ref I) >>= _) _ _ s from wpAny_bind (W.item i s _ _ (by omega) st fun v s2 hp st2 mv => ?_))
    obtain ⟨k, u, hk, rfl⟩ := hv i v hp
    have t2 := t.at_ (h' := s2.heap) fun o e => mv.heap S o hw e
    refine (show wpAny _ A.in1 (holding [Value.str k u] (setAdd S (.str k u)) >>= _) _ _ s2 from wpAny_bind (wpAny_holding ?_))
    unfold setAdd
    refine wpAny_holding (wpAny_bind ((strKind P w).pyHash (is_str k u) ?_))
    refine tx_step (s := { s2 with toks := s2.toks + 1 }) t2 (by rw [List.length_take]; omega) fun b h' sb t3 => ?_
    have e : ws.take i ++ [k] = ws.take (i + 1) := by rw [List.take_add_one, hk]; rfl
    rw [e] at t3
    refine wpAny_pure ⟨plainId_quiet F.plain_set_update_loop _, ih (i + 1) _ (by omega) (by omega) (W.frame _ s2 _ _ st2 (Nat.le_succ _) fun c hc o z => ?_) t3 fun s3 mv3 t4 => ?_⟩
    · rw [sb.2 c fun y => hS (y ▸ hc)]; exact z
    · refine q s3 (Moved.trans W.gtrans ((mv.mono up).then_heap (Nat.le_succ _) fun c o hc z => ?_) mv3) t4
      rw [sb.2 c fun y => hc (y ▸ List.mem_cons_self)]; exact z
def TxEnd (P : Program) (w : World) (s : Shared) (ws : List Str) (s2 : Shared) : Prop := ∃ h tk, s2 = { s with heap := h, toks := tk } ∧ TxAt P w h s.heap.objs.size ws ∧ ∀ b o, s.heap.get? b = some o → h.get? b = some o
theorem str_at_x : ∀ {us : List Value} {xs : List Str}, StrsAre us xs → ∀ i v, us[i]? = some v → ∃ t, v = Value.str (xs.getD i Str.empty) t
  | _, _, .nil, i, v, h => by simp at h
  | _, _, .cons x t r, i, v, h => by
    cases i with
    | zero =>
      obtain rfl : Value.str x t = v := by simpa using h
      exact ⟨t, rfl⟩
    | succ i =>
      obtain ⟨u, e⟩ := str_at_x r i v (by simpa using h)
      exact ⟨u, by rw [e]; rfl⟩
theorem tx_loop {l : Addr} {vs : Array Value} {ws : List Str} (hh : A.handled = none) (hl : s.heap.IsList l vs) (hi : StrsAre vs.toList ws) (hb : ws.length + 1 < scanBound) :
    codeAny (model P w) A (.builtin "set.update.loop" ⟨[.ref s.heap.objs.size, .ref (s.heap.push (set0 w)).objs.size], []⟩) (wants (fun r s2 => r = .none ∧ TxEnd P w s ws s2) E) { s with heap := (s.heap.push (set0 w)).push { cls := .type "list_iterator", data := .fields #[.ref l, .int 0 0] } } := by
  have hn : vs.size = ws.length := by
    have := hi.len_eq
    rwa [Array.length_toList] at this
  have lt : l < s.heap.objs.size := by
    obtain ⟨o, ho, _⟩ := hl
    exact Heap.lt_size ho
  have z1 : (s.heap.push (set0 w)).objs.size = s.heap.objs.size + 1 := Heap.size_push ..
  have Wk := (Walks.list (prog := P) (w := w) (A := A.in1) (by simpa using hh) (s.heap.push (set0 w)).objs.size l (by rw [z1]; exact Nat.ne_of_lt (Nat.lt_succ_of_lt lt)) vs).toS
  refine tx_fill Wk (S := s.heap.objs.size) (fun z => ?_) hn hb (fun i v hv => ?_) _ 0 _ rfl (Nat.zero_le _) ⟨⟨_, Heap.get?_push_size _ rfl, rfl, rfl⟩, (hl.push _).push _⟩ ⟨_, [], Heap.get?_push_of_some _ (Heap.get?_push_size _ rfl), TxS.zero, Nat.le_refl _, fun x => by simp⟩ fun s2 mv t => ?_
  · rcases List.mem_cons.mp z with z | z
    · rw [z1] at z
      exact absurd z (Nat.ne_of_lt (Nat.lt_succ_self _))
    · exact absurd (List.mem_singleton.mp z).symm (Nat.ne_of_lt lt)
  · have il : i < ws.length := by rw [← hn]; exact (Array.getElem?_eq_some_iff.mp hv).1
    obtain ⟨t, e⟩ := str_at_x hi i v (by rw [Array.getElem?_toList]; exact hv)
    refine ⟨ws[i], t, List.getElem?_eq_getElem il, ?_⟩
    rw [e, List.getD_eq_getElem?_getD, List.getElem?_eq_getElem il]
    rfl
  · refine ⟨rfl, s2.heap, s2.toks, ?_, t, fun b o e => ?_⟩
    · have h1 := mv.gens
      have h2 := mv.drawn
      have h3 := mv.os
      cases s2
      simp_all
    · have bl := Heap.lt_size e
      refine mv.heap b o (fun z => ?_) (Heap.get?_push_of_some _ (Heap.get?_push_of_some _ e))
      rcases List.mem_cons.mp z with z | z
      · exact absurd z (Nat.ne_of_lt bl)
      · have z := List.mem_singleton.mp z
        rw [z1] at z
        exact absurd z (Nat.ne_of_lt (Nat.lt_succ_of_lt bl))
theorem tx_make {l : Addr} {vs : Array Value} {ws : List Str} {Q : Value → Shared → Prop} (hh : A.handled = none) (hl : s.heap.IsList l vs) (hi : StrsAre vs.toList ws) (hb : ws.length + 1 < scanBound) (q : ∀ s2, TxEnd P w s ws s2 → Q (.ref s.heap.objs.size) s2) : wpAny (model P w) A (call (.type "set") [.ref l]) Q E s := by
  have f0 := F.called_set
  obtain ⟨fa, fb, fc⟩ := f0.mro
  have f1 := f0.made
  have f2 := f0.sub
  have f3 := f0.notType
  have f4 := f0.canCreate
  have f5 := F.typeCall_set_1 (.ref l)
  have f6 := f0.init.lookup
  have f7 := f0.init.bind (.ref s.heap.objs.size)
  have at0 : (s.heap.push (set0 w)).get? s.heap.objs.size = some (set0 w) := Heap.get?_push_size _ rfl
  have ty0 : Shared.TypeIs { s with heap := s.heap.push (set0 w) } (.ref s.heap.objs.size) "set" := ⟨_, at0, rfl⟩
  refine wpAny_call (codeAny_of_tree (show wpAny _ _ (callAny (.type "set") _) _ _ _ from wpAny_pure ⟨Code.quiet_builtin _ (by decide +kernel), codeAny_builtin F.entry_type_call ?_⟩))
  rw [Around.under_plain (weight_type_call_type "set" [.ref l] []) rfl]
  repeat (any_goals (first | assumption | wp_step))
  refine codeAny_mono (code_set_led1 (.ref l) (E := E) (Q₁ := fun v s1 => v = .ref s.heap.objs.size ∧ s1 = { s with heap := s.heap.push (set0 w) }) ⟨rfl, rfl⟩) fun r s1 h1 => ?_
  match r, h1 with
  | .error _, h1 => exact h1
  | .ok .next, h1 => exact h1.elim
  | .ok .brk, h1 => exact h1.elim
  | .ok .cont, h1 => exact h1.elim
  | .ok (.ret v), ⟨e1, e2⟩ =>
    subst e1
    subst e2
    repeat (any_goals (first | assumption | wp_step))
    refine codeAny_mono (codeAny_call_builtin (R := wants (fun r s2 => r = .none ∧ TxEnd P w s ws s2) E) f0.init.plain F.entry_set_init (check_set_init_1 ty0 ?_)) fun r s2 h2 => ?_
    · obtain ⟨⟨k1, k2, k3, k4⟩, g1, g2, g3, g4⟩ := id hl
      dsimp only at g2 g4
      subst g2
      subst g4
      have u1 := F.sub_list_set
      have u2 := F.sub_list_frozenset
      have u3 : (Value.type "list" == Value.type "dict") = false := by decide
      have g5 := Heap.get?_push_of_some (set0 w) g1
      have l1 : (s.heap.push (set0 w)).IsList l vs := hl.push _
      unfold Builtin.«set.__init__» noKeywords Builtin.Frozenset.updateFrom
      generalize hp : pyIter = pI
      wp_walk
      subst hp
      refine wpAny_pyIter_list l1 (wpAny_bind (wpAny_runValue ?_))
      refine codeAny_mono (tx_loop (E := E) (A := A.in1.in1) (by simpa using hh) hl hi hb) fun r s3 h3 => ?_
      match r, h3 with
      | .error _, h3 => exact h3
      | .ok .next, h3 => exact h3.elim
      | .ok .brk, h3 => exact h3.elim
      | .ok .cont, h3 => exact h3.elim
      | .ok (.ret v), ⟨_, h3⟩ => exact wpAny_pure (wpAny_pure ⟨rfl, h3⟩)
    · match r, h2 with
      | .error _, h2 => exact h2
      | .ok .next, h2 => exact h2.elim
      | .ok .brk, h2 => exact h2.elim
      | .ok .cont, h2 => exact h2.elim
      | .ok (.ret v), ⟨e1, h2⟩ =>
        subst e1
        repeat (any_goals (first | assumption | wp_step))
        exact q s2 h2
end
def SetS (P : Program) (w : World) (a : Addr) (ws : List Str) : HO := .ext fun h => TxAt P w h a ws
section
variable {X : Cx}
theorem setS_new {w : World} {P : Program} {H : Hp} {h : Heap} {a : Addr} {ws : List Str} (t : TxAt P w h a ws) : ObjOk P w H h a (SetS P w a ws) := by
  have ⟨D, l, h1, _⟩ := t
  exact ⟨t, ⟨_, h1⟩, fun _ _ p k => TxAt.at_ p k⟩
def rSetLS (K : PySem.W.Frag) (P : Program) (w : World) : List V → Hp → VK → Prop := fun vs H Q => ∃ (a : Addr) (ws : List Str), vs = [V.ref a] ∧ SqL K H a (ws.map V.str) ∧ ws.length < 1000 ∧ ∀ p, H p = none → Q (.ref p) (upd H p (SetS P w p ws))
theorem cr_setLSK (K : PySem.W.Frag) (hc : X.calm = true) (hK : X.K = K := by rfl) : CallR X (.type "set") (rSetLS K X.prog X.w) := by
  subst hK
  intro pins s σ H vs us Q I r h
  obtain ⟨a, ws, rfl, hs, hz, q⟩ := h
  obtain ⟨its, rv, hl, _⟩ := I.list hs
  rw [Vals.ref1 r]
  refine tx_make (I.ok.hd hc) hl.isList rv.strs (by unfold scanBound; omega) fun s2 h2 => ?_
  obtain ⟨h, tk, rfl, ht, hk⟩ := h2
  exact ⟨.ref _, upd H s.heap.objs.size (SetS X.prog X.w s.heap.objs.size ws), I.laid (t' := tk) hk (Nat.le_refl _) (setS_new ht), rfl, q _ (I.hok.fresh (Nat.le_refl _))⟩
def rSortedLS (P : Program) (w : World) : List V → Hp → VK → Prop := fun vs H Q => ∃ (a : Addr) (ws : List Str), vs = [V.ref a] ∧ H a = some (SetS P w a ws) ∧ ws.length < 64 ∧ ∀ (ys : List Str) (p : Addr), ys.Nodup → sortedS ys = true → (∀ x, x ∈ ys ↔ x ∈ ws) → H p = none → Q (.ref p) (upd H p (.lst (ys.map V.str)))
theorem perm_few : ∀ {l ks : List Str}, l.Nodup → (∀ x ∈ l, x ∈ ks) → ks.length ≤ l.length → l.Perm ks
  | [], ks, _, _, h => by
    obtain rfl : ks = [] := List.length_eq_zero_iff.mp (Nat.le_zero.mp h)
    exact .nil
  | x :: l, ks, nd, hm, h => by
    obtain ⟨n1, n2⟩ := List.nodup_cons.mp nd
    have hx := hm x List.mem_cons_self
    have e := List.length_erase_of_mem hx
    rw [List.length_cons] at h
    refine ((perm_few n2 (fun y hy => ?_) (by omega)).cons x).trans (List.perm_cons_erase hx).symm
    exact (List.mem_erase_of_ne fun z : y = x => n1 (z ▸ hy)).mpr (hm y (List.mem_cons_of_mem _ hy))
theorem elems_str {P : Program} {w : World} : ∀ {es : List (Int × Value)}, ElemsOf (strKind P w) es → ∃ ks, StrsAre (es.map (·.2)) ks ∧ ks.length = es.length ∧ ∀ x, x ∈ ks ↔ ∃ e ∈ es, (strKind P w).is x e.2 = true
  | [], _ => ⟨[], .nil, rfl, fun x => ⟨fun z => (nomatch z), fun ⟨_, z, _⟩ => (nomatch z)⟩⟩
  | e :: es, h => by
    obtain ⟨⟨k, h1, _⟩, _⟩ := h e List.mem_cons_self
    obtain ⟨tk, e1⟩ := Value.isStrOf_shape (x := k) (v := e.2) h1
    obtain ⟨ks, r, hl, hm⟩ := elems_str fun x hx => h x (List.mem_cons_of_mem _ hx)
    refine ⟨k :: ks, by rw [List.map_cons, e1]; exact .cons k tk r, by rw [List.length_cons, List.length_cons, hl], fun x => ?_⟩
    rw [List.mem_cons, hm]
    constructor
    · rintro (rfl | ⟨y, hy, z⟩)
      · exact ⟨e, List.mem_cons_self, h1⟩
      · exact ⟨y, List.mem_cons_of_mem _ hy, z⟩
    · rintro ⟨y, hy, z⟩
      rcases List.mem_cons.mp hy with rfl | hy
      · exact .inl ((strKind P w).inj y.2 x k z h1)
      · exact .inr ⟨y, hy, z⟩
theorem strs_perm {us vs : List Value} {xs : List Str} (h : StrsAre us xs) (p : us.Perm vs) : ∃ ys, StrsAre vs ys ∧ xs.Perm ys := by
  induction p generalizing xs with
  | nil => cases h; exact ⟨[], .nil, .nil⟩
  | cons v p ih =>
    cases h with
    | cons x t r =>
      obtain ⟨ys, h1, h2⟩ := ih r
      exact ⟨x :: ys, .cons x t h1, h2.cons x⟩
  | swap a b l =>
    cases h with
    | cons x t r =>
      cases r with
      | cons y u r => exact ⟨y :: x :: _, .cons y u (.cons x t r), .swap y x _⟩
  | trans p q ih1 ih2 =>
    obtain ⟨ys, h1, h2⟩ := ih1 h
    obtain ⟨zs, h3, h4⟩ := ih2 h1
    exact ⟨zs, h3, h2.trans h4⟩
theorem cr_sortedLS (hc : X.calm = true) : CallR X (.builtin "sorted") (rSortedLS X.prog X.w) := by
  intro pins s σ H vs us Q I r h
  obtain ⟨a, ws, rfl, ha, h64, q⟩ := h
  obtain ⟨D, l, ho, F, hl, hm⟩ := (I.hok a _ ha).1
  rw [Vals.ref1 r]
  obtain ⟨es, ep, t⟩ := D
  have sz : es.size = l.length := F.ok.sz
  have f0 : t.fits es.size = true := F.ok.fit
  obtain ⟨ks, hks, hkl, hkm⟩ := elems_str (show ElemsOf (strKind X.prog X.w) es.toList from F.ok.el)
  have hmem : ∀ x, x ∈ ks ↔ x ∈ ws := fun x => by rw [hkm, ← hm]; exact (F.ok.mem x).symm
  have hkl : ks.length = l.length := by rw [hkl]; exact (Array.length_toList).trans sz
  have knd : ks.Nodup := by
    exact (perm_few F.nd (fun x hx => (hmem x).mpr ((hm x).mp hx)) (by omega)).nodup_iff.mp F.nd
  refine Calls.call_function_entry kind_sorted plain_sorted entry_sorted (args_sorted1 _) ?_
  unfold Builtin.«sorted»
  refine wpAny_bind (m := checkCount "sorted" 1 1 _) (wpAny_pure ?_)
  refine wpAny_bind (collect_set (A := X.A.in1) (I.ok.hd hc) ⟨_, ho, rfl, rfl⟩ f0 (by show es.size < scanBound; rw [sz]; unfold scanBound; omega) F.ris F.led fun s1 out k1 z1 g1 o1 pm => ?_)
  obtain ⟨xs, hxs, hxp⟩ := strs_perm hks pm.symm
  have xl : out.length = l.length := by rw [pm.length_eq, List.length_map, Array.length_toList, sz]
  refine wpAny_bind (wpAny_newList ?_ (by rw [xl, sizeLine_eq]; omega))
  have hoL : (s1.heap.push (seqObj "list" out.toArray 0)).get? s1.heap.objs.size = some (seqObj "list" out.toArray 0) := Heap.get?_push_size _ rfl
  refine wpAny_bind (wpAny_holding (wpAny_call_entry slot_list_sort ⟨_, hoL, rfl⟩ entry_list_sort (list_sort_treeK strKind_oneLt (s := { s1 with heap := s1.heap.push (seqObj "list" out.toArray 0) }) hoL hxs.keysOf (fun v₁ v₂ rest e => keyKind_strs (by rw [← e]; exact hxs)) (by rw [xl]; omega) fun st' hp hs => ⟨_, rfl, ?_⟩) (args_list_sort _)))
  obtain ⟨ys, y1, y2, y3⟩ := sorted_out_str hxs hp hs
  obtain ⟨c, hat⟩ := sortedHeap_at (vs := out) (out := (arrOf st').map (·.2)) hoL
  have yl : (ys.map V.str).length ≤ sizeLine := by
    rw [List.length_map, y2.length_eq, ← hxp.length_eq, hkl, sizeLine_eq]
    omega
  have hn : H s1.heap.objs.size = none := I.hok.fresh z1
  have kk : ∀ b u, s.heap.get? b = some u → (sortedHeap (s1.heap.push (seqObj "list" out.toArray 0)) s1.heap.objs.size out ((arrOf st').map (·.2))).get? b = some u := fun b u e => by
    have e1 := k1 b u e
    have lt := Heap.lt_size e1
    rw [sortedHeap_old (Nat.ne_of_lt lt) (by rw [size_push']; exact Nat.lt_succ_of_lt lt)]
    exact Heap.get?_push_of_some _ e1
  refine wpAny_pure ?_
  have J : Inv X pins σ (upd H s1.heap.objs.size (.lst (ys.map V.str))) { s with heap := sortedHeap (s1.heap.push (seqObj "list" out.toArray 0)) s1.heap.objs.size out ((arrOf st').map (·.2)), gens := s1.gens, drawn := s1.drawn, toks := s1.toks } :=
    I.call (ch := []) (Un.laid kk z1 hn) (I.hok.laid kk z1 ⟨yl, ((arrOf st').map (·.2)).toList, c, vals_of_strs y1, by rw [Array.toArray_toList]; exact hat⟩) (by rw [g1]; exact I.bare) (fun _ z => nomatch z)
  refine ⟨_, rfl, .ref s1.heap.objs.size, _, ?_, rfl, q ys s1.heap.objs.size ?_ y3 (fun x => ?_) hn⟩
  · cases s1
    cases s
    cases o1
    exact J
  · exact y2.nodup_iff.mpr (hxp.nodup_iff.mp knd)
  · rw [y2.mem_iff, ← hxp.mem_iff, hmem]
theorem cr_setLSN (P : Program) (w : World) (K : PySem.W.Frag) (hc : X.calm = true) (hP : X.prog = P := by rfl) (hw : X.w = w := by rfl) (hK : X.K = K := by rfl) : CallR X (.type "set") (rSetLS K P w) := by
  subst hP
  subst hw
  exact cr_setLSK K hc hK
theorem cr_sortedLSN (P : Program) (w : World) (hc : X.calm = true) (hP : X.prog = P := by rfl) (hw : X.w = w := by rfl) : CallR X (.builtin "sorted") (rSortedLS P w) := by
  subst hP
  subst hw
  exact cr_sortedLS hc
end
def rMulU : L2.R2 := fun x y H Q => ∃ a i, x = .str a ∧ y = .int i ∧ a.length ≤ 64 ∧ -(2 ^ 63 : Int) ≤ i ∧ i ≤ ((1000 : Nat) : Int) ∧ Q (.str (Txt.mul a i)) H
theorem op_mulU {X : Cx} : OpR X (binaryOp .Mult) rMulU := by
  intro pins s σ H x y v u Q I rx ry h
  obtain ⟨a, i, rfl, rfl, h1, h2, h3, q⟩ := h
  obtain ⟨t, rfl⟩ := rx
  obtain ⟨t', rfl⟩ := ry
  exact SB.mul (mulOk_of 64 1000 h1 h3 h2 (by decide) (by decide)) (fun t' tk => ⟨.str (Txt.mul a i), H, I.tok _, ⟨_, rfl⟩, q⟩)
theorem x_mulU {Γ : Ctx} {ta tb : TE} {l : List Nat} {k : Nat} (ha : EvX Γ ta (rSt l)) (hb : EvX Γ tb (nI k)) (h1 : l.length ≤ 64) (h2 : k ≤ 1000) : EvX Γ (tOp rMulU ta tb) (rSt ((List.replicate k l).flatten)) := fun σ G en =>
  Ev.d (ev_op2 (ha σ G en) (hb σ G en) fun x y H hx hy Q q => by
    obtain rfl : x = V.str (sL l) := hx
    obtain rfl : y = V.int (k : Int) := hy
    refine ⟨sL l, (k : Int), rfl, rfl, by rw [sL_len]; exact h1, by omega, by omega, ?_⟩
    rw [mul_sL]
    exact q)
theorem x_sCut {Γ : Ctx} {te tb : TE} {z : Str} {i : Int} (ha : EvX Γ te (rS z)) (hb : EvX Γ tb (rI i)) (hz : z.length ≤ 100000) : EvX Γ (tSl rSlS te tNoPart (tPart tb)) (rS (cutS z none (some i))) := fun σ G en H e Q q => ha σ G en H e _ fun v G1 H1 g1 hv => by
  obtain rfl : v = V.str z := hv
  refine hb σ G1 (en.mono g1.g) H1 g1.i _ fun w G2 H2 g2 hw => ?_
  obtain rfl : w = V.int i := hw
  exact ⟨_, rfl, z, rfl, sz_of hz, q _ G2 H2 (g1.trans g2) rfl⟩
end Mu

namespace MuL
open PySem PySem.Spec PyProof.Rows L2 He Evl Mu
structure Tx (K : PySem.W.Frag) (mg : Str → Option Value) where
  f_subrows : Addr
  fd_subrows : FuncData
  F_subrows : FunD K "subrows" "subrows" (defArgs s_subrows) (defBody s_subrows) (defScope s_subrows) [] [] f_subrows fd_subrows
  g_subrows : mg "subrows" = some (.ref f_subrows)
  f__law_box : Addr
  fd__law_box : FuncData
  F__law_box : FunD K "_law_box" "_law_box" (defArgs s__law_box) (defBody s__law_box) (defScope s__law_box) [] [] f__law_box fd__law_box
  g__law_box : mg "_law_box" = some (.ref f__law_box)
  f__law_take : Addr
  fd__law_take : FuncData
  F__law_take : FunD K "_law_take" "_law_take" (defArgs s__law_take) (defBody s__law_take) (defScope s__law_take) [] [] f__law_take fd__law_take
  g__law_take : mg "_law_take" = some (.ref f__law_take)
  f__law_letters : Addr
  fd__law_letters : FuncData
  F__law_letters : FunD K "_law_letters" "_law_letters" (defArgs s__law_letters) (defBody s__law_letters) (defScope s__law_letters) [] [] f__law_letters fd__law_letters
  g__law_letters : mg "_law_letters" = some (.ref f__law_letters)
  f__law_subsets : Addr
  fd__law_subsets : FuncData
  F__law_subsets : FunD K "_law_subsets" "_law_subsets" (defArgs s__law_subsets) (defBody s__law_subsets) (defScope s__law_subsets) [] [] f__law_subsets fd__law_subsets
  g__law_subsets : mg "_law_subsets" = some (.ref f__law_subsets)
  f__law_left : Addr
  fd__law_left : FuncData
  F__law_left : FunD K "_law_left" "_law_left" (defArgs s__law_left) (defBody s__law_left) (defScope s__law_left) [] [] f__law_left fd__law_left
  g__law_left : mg "_law_left" = some (.ref f__law_left)
  f_law : Addr
  fd_law : FuncData
  F_law : FunD K "law" "law" (defArgs s_law) (defBody s_law) (defScope s_law) [] [] f_law fd_law
  g_law : mg "law" = some (.ref f_law)
  m_len : mg "len" = none
  m_range : mg "range" = none
  m_list : mg "list" = none
  m_int : mg "int" = none
  m_abs : mg "abs" = none
  m_str : mg "str" = none
  m_sorted : mg "sorted" = none
  m_set : mg "set" = none
theorem mkTx {K : PySem.W.Frag} {h : Heap} {mg : Str → Option Value} (X : K.In h) (G : h.Ns mainGlobals mg) (c : Mu.SaysM fa ex fn K) : ∃ T : Tx K mg, T.f_law = fAd K ("law", none) := by
  obtain ⟨fd_subrows, F_subrows⟩ := c.def_ 0 (d := d_subrows) rfl
  obtain ⟨fd__law_box, F__law_box⟩ := c.def_ 1 (d := d__law_box) rfl
  obtain ⟨fd__law_take, F__law_take⟩ := c.def_ 2 (d := d__law_take) rfl
  obtain ⟨fd__law_letters, F__law_letters⟩ := c.def_ 3 (d := d__law_letters) rfl
  obtain ⟨fd__law_subsets, F__law_subsets⟩ := c.def_ 4 (d := d__law_subsets) rfl
  obtain ⟨fd__law_left, F__law_left⟩ := c.def_ 5 (d := d__law_left) rfl
  obtain ⟨fd_law, F_law⟩ := c.def_ 6 (d := d_law) rfl
  exact ⟨⟨fAd K ("subrows", none), fd_subrows, F_subrows, glo_ok X G (c.fact 0 (f := .glo "subrows") rfl), fAd K ("_law_box", none), fd__law_box, F__law_box, glo_ok X G (c.fact 1 (f := .glo "_law_box") rfl), fAd K ("_law_take", none), fd__law_take, F__law_take, glo_ok X G (c.fact 2 (f := .glo "_law_take") rfl), fAd K ("_law_letters", none), fd__law_letters, F__law_letters, glo_ok X G (c.fact 3 (f := .glo "_law_letters") rfl), fAd K ("_law_subsets", none), fd__law_subsets, F__law_subsets, glo_ok X G (c.fact 4 (f := .glo "_law_subsets") rfl), fAd K ("_law_left", none), fd__law_left, F__law_left, glo_ok X G (c.fact 5 (f := .glo "_law_left") rfl), fAd K ("law", none), fd_law, F_law, glo_ok X G (c.fact 6 (f := .glo "law") rfl), free_ok X G (c.fact 7 (f := .free "len") rfl), free_ok X G (c.fact 8 (f := .free "range") rfl), free_ok X G (c.fact 9 (f := .free "list") rfl), free_ok X G (c.fact 10 (f := .free "int") rfl), free_ok X G (c.fact 11 (f := .free "abs") rfl), free_ok X G (c.fact 12 (f := .free "str") rfl), free_ok X G (c.fact 13 (f := .free "sorted") rfl), free_ok X G (c.fact 14 (f := .free "set") rfl)⟩, rfl⟩
end MuL

namespace MuL
open PySem PySem.Spec PyProof.Rows L2 He Evl Mu
section
variable {P : Program} {w : World} {K : PySem.W.Frag} {mg : Str → Option Value} {base : Heap}
local macro_rules | `(tactic| wtm_at "s") => `(tactic| first | assumption | omega | exact rfl | decide | wtm_at "s2")
local macro_rules | `(tactic| wtm_at "s2") => `(tactic| (simp only [List.length_map, List.length_range, List.length_cons, List.length_nil, List.length_append, List.length_take, List.length_drop]; omega))
local macro_rules | `(tactic| wtm_at "j") => `(tactic| first | exact List.mem_cons_self | (simp; done))
local macro_rules | `(tactic| wtm_at "tr") => `(tactic| (apply t_is; (focus (wtm_at "t")); exact rfl))
local macro_rules | `(tactic| wtm_at "bs") => `(tactic| first | exact rfl | (simp; done) | (simp [*]; done))
local macro_rules | `(tactic| wtm_at "yes") => `(tactic| (apply w_yes; (focus (apply t_is; (focus (wtm_at "t")); first | exact rfl | (simp; done) | (simp [*]; done)))))
local macro_rules | `(tactic| wtm_at "no") => `(tactic| (apply w_no; (focus (apply t_is; (focus (wtm_at "t")); first | exact rfl | (simp; done) | (simp [*]; done)))))
local macro_rules | `(tactic| wtm_at "nn") => `(tactic| first | exact nn_tab | exact nn_L | exact nn_T | exact nn_I)
local macro_rules | `(tactic| wtm_at "sub") => `(tactic| repeat' first | exact Paired.nil | refine Paired.cons (Or.inr rfl) ?_ | refine Paired.cons (Or.inl rfl) ?_)
local macro_rules | `(tactic| wtm_at "o") => `(tactic| first
    | ((with_reducible show OM (L2.rI CMul _) _ _ _ _); first | refine om (x_mulN (x_v rfl) (x_v rfl) (by first | exact .inl (by wtm_at "s") | exact .inr (by wtm_at "s"))) ?_)
    | ((with_reducible show OM (L2.rI CDiv _) _ _ _ _); first | refine om (x_divN (x_v rfl) (x_v rfl) (by wtm_at "s") (by wtm_at "s")) ?_)
    | ((with_reducible show OM (rI0 _) _ _ _ _); first | refine om (x_addN (x_v rfl) (x_v rfl)) ?_ | refine om (x_subN (x_v rfl) (x_v rfl) (by wtm_at "s")) ?_ | refine om (x_bandN (x_v rfl) (x_v rfl)) ?_ | refine om (x_borN (x_v rfl) (x_v rfl)) ?_ | refine om (x_ltN (x_v rfl) (x_v rfl)) ?_ | refine om (x_leN (x_v rfl) (x_v rfl)) ?_ | refine om (x_gtN (x_v rfl) (x_v rfl)) ?_ | refine om (x_geN (x_v rfl) (x_v rfl)) ?_ | refine om (x_I0 (x_v rfl) (x_v rfl)) ?_)
    | ((with_reducible show OM (L2.rI _ _) _ _ _ _); first | refine om (x_powN (x_v rfl) (x_v rfl) (by wtm_at "s") (by wtm_at "s")) ?_ | refine om (x_shrN (x_v rfl) (x_v rfl)) ?_ | refine om (x_shlN1 (x_v rfl) (x_v rfl) (by wtm_at "s")) ?_ | refine om (x_I (x_v rfl) (x_v rfl) (by wtm_at "s")) ?_)
    | ((with_reducible show OM rEq _ _ _ _); first | refine om (x_eqN (x_v rfl) (x_v rfl)) ?_ | refine om (x_eqI (x_v rfl) (x_v rfl)) ?_ | refine om (x_eqV (x_v rfl) (x_v rfl) rfl) ?_)
    | ((with_reducible show OM rNe _ _ _ _); first | refine om (x_neN (x_v rfl) (x_v rfl)) ?_ | refine om (x_neI (x_v rfl) (x_v rfl)) ?_ | refine om (x_neV (x_v rfl) (x_v rfl) rfl) ?_)
    | ((with_reducible show OM (rIxT _) _ _ _ _); first | refine om (x_ixTn (x_v rfl) (x_v rfl) (by wtm_at "s")) ?_ | refine om (x_ixT (x_v rfl) (x_v rfl) rfl) ?_ | refine om (x_ixTm default (x_v rfl) (x_v rfl) (by wtm_at "s")) ?_)
    | ((with_reducible show OM (rIxL _) _ _ _ _); first | refine om (x_ixB (x_v rfl) (x_v rfl) (by wtm_at "s")) ?_ | refine om (x_ixLn (x_v rfl) (x_v rfl) (by wtm_at "s")) ?_ | refine om (x_ixLL (x_v rfl) (x_v rfl) (by wtm_at "s")) ?_ | refine om_ixOwn 0 rfl (by wtm_at "s") ?_ | refine om_ixOwn 1 rfl (by wtm_at "s") ?_ | refine om_ixOwn 2 rfl (by wtm_at "s") ?_ | refine om_ixOwn 3 rfl (by wtm_at "s") ?_ | refine om (x_ixL (x_v rfl) (x_v rfl) rfl) ?_ | refine om (x_ixL (x_v rfl) (x_v rfl) (by assumption)) ?_ | refine om (x_ixLm default (x_v rfl) (x_v rfl) (by wtm_at "s")) ?_)
    | ((with_reducible show OM (rIn _ _) _ _ _ _); first | refine om (x_inLn (l := [_, _]) (x_v rfl) (x_v rfl)) ?_ | refine om (x_inLn (l := [_, _, _]) (x_v rfl) (x_v rfl)) ?_ | refine om (x_inLn (x_v rfl) (x_v rfl)) ?_ | refine om (x_niLn (x_v rfl) (x_v rfl)) ?_ | refine om (x_niTn (x_v rfl) (x_v rfl)) ?_ | refine om (x_inTi true (x_v rfl) (x_v rfl)) ?_ | refine om (x_inTi false (x_v rfl) (x_v rfl)) ?_ | refine om (x_inLi true (x_v rfl) (x_v rfl)) ?_ | refine om (x_inLi false (x_v rfl) (x_v rfl)) ?_)
    | ((with_reducible show OM (rEqD _) _ _ _ _); first | refine om (x_eqLn0 (x_v rfl) (x_v rfl)) ?_ | refine om (x_eqLn (x_v rfl) (x_v rfl)) ?_ | refine om (x_eqTn (x_v rfl) (x_v rfl)) ?_ | refine om (x_eqLL (x_v rfl) (x_v rfl)) ?_)
    | ((with_reducible show OM (rNeD _) _ _ _ _); first | refine om (x_neLn0 (x_v rfl) (x_v rfl)) ?_ | refine om (x_neLn (x_v rfl) (x_v rfl)) ?_ | refine om (x_neTn (x_v rfl) (x_v rfl)) ?_ | refine om (x_neLL (x_v rfl) (x_v rfl)) ?_ | refine om (x_neP (x_v rfl) (x_v rfl)) ?_)
    | ((with_reducible show OM (rInD _) _ _ _ _); first | refine om (x_inP (x_v rfl) (x_v rfl)) ?_)
    | ((with_reducible show OM (rNotInD _) _ _ _ _); first | refine om (x_niP (x_v rfl) (x_v rfl)) ?_)
    | ((with_reducible show OM (rInTD _) _ _ _ _); first | refine om (x_inTP (x_v rfl) (x_v rfl)) ?_)
    | ((with_reducible show OM rIsB _ _ _ _); first | refine om (x_isB (x_v rfl) (x_v rfl)) ?_)
    | ((with_reducible show OM rNotB _ _ _ _); first | refine om (x_isNB (x_v rfl) (x_v rfl)) ?_)
    | ((with_reducible show OM (fun _ _ _ _ => _ ∧ _) _ _ _ _); first | refine om_isN0 ?_ | refine om_notN0 ?_ | refine om_isN1 (by wtm_at "nn") ?_ | refine om_notN1 (by wtm_at "nn") ?_)
    | ((with_reducible show OM rInS _ _ _ _); first | refine om (x_inS (x_v rfl) (x_v rfl)) ?_)
    | ((with_reducible show OM rNotInS _ _ _ _); first | refine om (x_niS (x_v rfl) (x_v rfl)) ?_)
    | ((with_reducible show OM rLtS _ _ _ _); first | refine om (x_ltS (x_v rfl) (x_v rfl)) ?_)
    | ((with_reducible show OM rAddT _ _ _ _); first | refine om_addL (by wtm_at "s") ?_ | refine om (x_addT (x_v rfl) (x_v rfl) (by wtm_at "s")) ?_)
    | ((with_reducible show OM rIxS _ _ _ _); first | refine om_ixT (by wtm_at "s") (by assumption) ?_ | refine om (x_ixS (x_v rfl) (x_v rfl) (by wtm_at "s") (by assumption)) ?_)
    | ((with_reducible show OM rDIn _ _ _ _); first | refine om_dinF ?_)
    | ((with_reducible show OM rDNotIn _ _ _ _); first | refine om_dniF ?_)
    | ((with_reducible show OM rDGet _ _ _ _); first | refine om_dgetF (by assumption) ?_)
    | ((with_reducible show OM rRep _ _ _ _); first | refine om_rep (by wtm_at "s") (by wtm_at "s") ?_)
    | ((with_reducible show OM rCat _ _ _ _); first | refine om_cat (by wtm_at "s") ?_ | refine om (x_catm (x_v rfl) (x_v rfl) (by wtm_at "s")) ?_))
local macro_rules | `(tactic| wtm_at "a") => `(tactic| first
    | ((with_reducible show AM (rLenS _) _ _ _); first | refine am1 (x_lenLn (x_v rfl)) ?_ | refine am1 (x_lenTn (x_v rfl)) ?_ | refine am1 (x_lenB (x_v rfl)) ?_ | refine am1 (x_lenLL (x_v rfl)) ?_ | refine am1 (x_lenLm (x_v rfl)) ?_ | refine am1 (x_lenTm (x_v rfl)) ?_ | refine am_own 0 rfl (x_lenLm (x_v rfl)) ?_ | refine am_own 1 rfl (x_lenLm (x_v rfl)) ?_ | refine am_own 2 rfl (x_lenLm (x_v rfl)) ?_ | refine am_own 3 rfl (x_lenLm (x_v rfl)) ?_ | refine am_own 1 rfl (x_lenLm' (x_v rfl)) ?_ | refine am_own 2 rfl (x_lenLm' (x_v rfl)) ?_ | refine am1 (x_lenL (x_v rfl)) ?_ | refine am1 (x_lenT (x_v rfl)) ?_)
    | ((with_reducible show AM Mu.rLenT _ _ _); first | refine am_lenL (by wtm_at "s") ?_ | refine am_lenT (Nat.le_of_ble_eq_true rfl) ?_ | refine am_lenT (by wtm_at "s") ?_)
    | ((with_reducible show AM rLenD _ _ _); first | refine am_lenD ?_)
    | ((with_reducible show AM (rTupO _) _ _ _); first | refine am1 (x_tupL (x_v rfl)) ?_)
    | ((with_reducible show AM rListK _ _ _); first | refine am_listK (K := by assumption) (by assumption) ?_)
    | ((with_reducible show AM (rListS _) _ _ _); first | refine am_listL ?_ | refine am_listT ?_ | refine am_listOwn 0 rfl ?_ | refine am_listOwn 1 rfl ?_ | refine am_listOwn 2 rfl ?_)
    | ((with_reducible show AM (rIsi _) _ _ _); first | refine am2c (x_isInt (x_v rfl)) ?_ | refine am2c (x_isList (x_v rfl)) ?_ | refine am2c (x_isTup (x_v rfl)) ?_ | refine am2c (x_isStrS (x_v rfl)) ?_ | refine am2c (x_isIntS (x_v rfl)) ?_ | refine am2c (x_isTab (Tx.ic_Table (by assumption)) (x_v rfl)) ?_ | refine am2c (x_isIns (by assumption) (by assumption) (x_v rfl)) ?_)
    | ((with_reducible show AM _ _ _ _); first | refine am1 (x_int (x_v rfl)) ?_ | refine mk_tab (by assumption) (by wtm_at "s") (by wtm_at "s") ?_))
local macro_rules | `(tactic| wtm_at "c") => `(tactic| fail)

local macro_rules | `(tactic| wtm_at "f") => `(tactic| first
    | refine f_own 0 rfl (by wtm_at "s") (by wtm_at "s") rfl ?_
    | refine f_own _ (by assumption) (by wtm_at "s") (by wtm_at "s") rfl ?_
    | refine f_ins (by wtm_at "s") (by wtm_at "s") rfl ?_
    | refine f_tab (x_size (x_v rfl) (Tx.c_Table (by assumption)) (Tx.na_Table_size (by assumption))) ?_
    | refine f_tab (x_masks (x_v rfl) (Tx.c_Table (by assumption)) (Tx.na_Table_masks (by assumption))) ?_
    | refine f_tab (x_cells (x_v rfl) (Tx.c_Table (by assumption)) (Tx.na_Table_cells (by assumption))) ?_)
local macro_rules | `(tactic| wtm_at "v") => `(tactic| first
    | ((with_reducible show EW _ _ _ (tMakeV _ _ _) _ _); refine e_makeV rfl ?_)
    | ((with_reducible show EW _ _ _ (tCM [_] _ (WE _) _) _ _); refine e_cmS ?_)
    | ((with_reducible show EW _ _ _ (tCM [] _ (WE _) _) _ _); refine e_smS ?_)
    | ((with_reducible show EW _ _ _ (tCM [_] _ _ _) _ _); refine e_cm ?_)
    | ((with_reducible show EW _ _ _ (tCM [] _ _ _) _ _); refine e_sm ?_)
    | ((with_reducible show EW _ _ _ (ClX.tCVal _ _ _) _ _); refine e_cval (by assumption) (by assumption) ?_)
    | ((with_reducible show EW _ _ _ (tVar _) _ _); refine e_v rfl ?_)
    | ((with_reducible show EW _ _ _ (tC (V.int _)) _ _); refine e_cn ?_)
    | ((with_reducible show EW _ _ _ (tC _) _ _); refine e_c ?_)
    | ((with_reducible show EW _ _ _ (tOp _ _ _) _ _); refine e_op ?_)
    | ((with_reducible show EW _ _ _ (tCB _ _) _ _); refine e_cb ?_)
    | ((with_reducible show EW _ _ _ (tCall _ [_] _ _) _ _); refine e_callD0 ?_)
    | ((with_reducible show EW _ _ _ (tCall _ _ _ _) _ _); refine e_call ?_)
    | ((with_reducible show EW _ _ _ (tCallS _ _ _) _ _); refine e_callS ?_)
    | ((with_reducible show EW _ _ _ (tFld _ _ _) _ _); refine e_fld _ ?_)
    | ((with_reducible show EW _ _ _ (tTup _) _ _); refine e_tup (by assumption) ?_)
    | ((with_reducible show EW _ _ _ (tLst _) _ _); refine e_lst (by assumption) ?_)
    | ((with_reducible show EW _ _ _ (tUn _ _) _ _); refine e_un ?_)
    | ((with_reducible show EW _ _ _ (tMake _ (spTab _ _) _ _ _) _ _); refine e_make ?_)
    | ((with_reducible show EW _ _ _ (tMakeS _ _ _ _) _ _); refine e_makeS ?_)
    | ((with_reducible show EW _ _ _ (tMeth _ _ _ _ _ _ _) _ _); refine e_meth ?_)
    | ((with_reducible show EW _ _ _ (tMethS _ _ _ _ _ _) _ _); refine e_methS ?_)
    | ((with_reducible show EW _ _ _ (tProp _ _ _ _ _) _ _); refine e_prop ?_)
    | ((with_reducible show EW _ _ _ (tLc (iList _ _) _ tYes _ _) _ _); apply e_lcL0; (focus (wtm_at "x")); (focus (wtm_at "s")); (focus (intro a ha; wtm_at "x")); (focus (wtm_at "j")))
    | ((with_reducible show EW _ _ _ (tLc (iTup _ _) _ tYes _ _) _ _); apply e_lcT0; (focus (wtm_at "x")); (focus (wtm_at "s")); (focus (intro a ha; wtm_at "x")); (focus (wtm_at "j")))
    | ((with_reducible show EW _ _ _ (tLc (iRng1 _) _ tYes _ _) _ _); apply e_lcR0 (by assumption); (focus (wtm_at "x")); (focus (wtm_at "s")); (focus (intro a ha; wtm_at "x")); (focus (wtm_at "j")))
    | ((with_reducible show EW _ _ _ (tLc (iList _ _) _ _ _ _) _ _); apply e_lcL; (focus (wtm_at "x")); (focus (wtm_at "s")); (focus (intro a ha; wtm_at "tr")); (focus (intro a ha hf; wtm_at "x")); (focus (wtm_at "j")))
    | ((with_reducible show EW _ _ _ (tLc (iTup _ _) _ _ _ _) _ _); apply e_lcT; (focus (wtm_at "x")); (focus (wtm_at "s")); (focus (intro a ha; wtm_at "tr")); (focus (intro a ha hf; wtm_at "x")); (focus (wtm_at "j")))
    | ((with_reducible show EW _ _ _ (tLc (iRng1 _) _ _ _ _) _ _); apply e_lcR (by assumption); (focus (wtm_at "x")); (focus (wtm_at "s")); (focus (intro a ha; wtm_at "tr")); (focus (intro a ha hf; wtm_at "x")); (focus (wtm_at "j")))
    | ((with_reducible show EW _ _ _ (tSl (rSlL _) _ tNoPart (tPart _)) _ _); apply e_slTo; (focus (wtm_at "x")))
    | ((with_reducible show EW _ _ _ (tSl (rSlL _) _ (tPart _) tNoPart) _ _); apply e_slFrom; (focus (wtm_at "x")))
    | ((with_reducible show EW _ _ _ (tSl rSlS _ tNoPart (tPart _)) _ _); apply e_sSTo; (focus (wtm_at "x")))
    | ((with_reducible show EW _ _ _ (tSl rSlS _ (tPart _) tNoPart) _ _); apply e_sSFrom; (focus (wtm_at "x")))
    | ((with_reducible show EW _ _ _ (tAndV _ _) _ _); first | (apply e_and; (focus (wtm_at "x")); (focus (intro hq; wtm_at "x"))) | (apply e_x; (focus (apply x_and0; (focus (wtm_at "x")); wtm_at "bs"))))
    | ((with_reducible show EW _ _ _ (tOrV _ _) _ _); first | (apply e_or; (focus (wtm_at "x")); (focus (intro hq; wtm_at "x"))) | (apply e_x; (focus (apply x_or1; (focus (wtm_at "x")); wtm_at "bs"))))
    | ((with_reducible show EW _ _ _ (tMake _ (spIni _ _) _ _ _) _ _); refine e_makeI ?_ spIni_E)
    | ((with_reducible show EW _ _ _ (tSup _ _ _ _ _ _ _) _ _); refine e_sup rfl (by assumption) ?_)
    | ((with_reducible show EW _ _ _ (tNotV _) _ _); apply e_not; (focus (wtm_at "x")))
    | ((with_reducible show EW _ _ _ (tBM _ _ _ _ _) _ _); first | refine e_app 0 rfl ?_ rfl | refine e_app 1 rfl ?_ rfl | refine e_app 2 rfl ?_ rfl | refine e_app 3 rfl ?_ rfl))
local macro_rules | `(tactic| wtm_at "e1") => `(tactic| first
    | ((with_reducible show EW _ _ _ _ _ _); wtm_at "v")
    | ((with_reducible show EA _ _ _ _ _ _); first | refine a_cons ?_ | refine a_nil ?_)
    | ((with_reducible show OM _ _ _ _ _); first | wtm_at "o" | wtm_at "c")
    | ((with_reducible show AM _ _ _ _); first | wtm_at "a" | wtm_at "c")
    | ((with_reducible show CM _ _ _ _); wtm_at "c")
    | ((with_reducible show XM _ _ _ _ _); wtm_at "c")
    | ((with_reducible show MkM _ _ _ _ _ _); wtm_at "c")
    | ((with_reducible show UM _ _ _ _); first | wtm_at "f" | refine um (x_neg (x_v rfl)) ?_ | wtm_at "c")
    | ((with_reducible show InsR _ _ _ ∧ _); first | refine ⟨ins_tab rfl, ?_⟩ | refine ⟨ins_ins rfl, ?_⟩ | refine ⟨ins_ins (by assumption), ?_⟩)
    | ((with_reducible show (∀ (v : V) (G : Hp), _ → ∃ a dx fs, _) ∧ _); first | refine ⟨ins_is, ?_⟩ | refine ⟨tab_is, ?_⟩)
    | ((with_reducible show And (@LE.le Nat _ _ _) _); refine ⟨Nat.le_of_ble_eq_true rfl, ?_⟩)
    | ((with_reducible show ∃ rs : List Rp, _ ∧ _ ∧ _); refine ⟨_, rfl, by wtm_at "s", ?_⟩)
    | ((with_reducible show ∃ rs : List Rp, _ = rL _ rs ∧ _); refine ⟨_, rfl, ?_⟩)
    | ((with_reducible show ∃ l : List Nat, _ = rV _ ∧ _ ∧ _ ∧ _); refine ⟨_, rfl, by wtm_at "s", by wtm_at "s", ?_⟩)
    | ((with_reducible show ∃ fs : FL, _ ∧ _ ∧ _ ∧ _); refine ⟨_, rfl, rfl, Nat.le_of_ble_eq_true rfl, ?_⟩)
    | ((with_reducible show _ = _ ∧ _ = ([] : List Re)); first | exact ⟨rfl, rfl⟩ | exact ⟨by wtm_at "q", rfl⟩))
local macro_rules | `(tactic| wtm_at "q") => `(tactic| first | rfl | exact congrArg nI (by omega) | exact congrArg Mu.rI (by omega) | exact congrArg rB (by wtm_at "b"))
local macro_rules | `(tactic| wtm_at "b") => `(tactic| first | rfl | (rw [Bool.eq_iff_iff]; simp; omega))
local macro_rules | `(tactic| wtm_at "e") => `(tactic| repeat wtm_at "e1")
local macro_rules | `(tactic| wtm_at "co") => `(tactic| fail)

local macro_rules | `(tactic| wtm_at "eo") => `(tactic| repeat first | ((with_reducible show CM _ _ _ _); wtm_at "co") | ((with_reducible show XM _ _ _ _ _); wtm_at "co") | wtm_at "e1")
local macro_rules | `(tactic| wtm_at "x") => `(tactic| first | exact x_v rfl | exact x_c | (apply EvX.by; intro W ε; (wtm_at "e"); done))
local macro_rules | `(tactic| wtm_at "t") => `(tactic| first
    | ((with_reducible show EvTX _ tYes _); exact t_yes)
    | ((with_reducible show EvTX _ (tAnd _ _) _); first | (apply t_and; (focus (wtm_at "t")); (focus (intro hq; wtm_at "t"))) | (apply t_and0; (focus (wtm_at "t")); wtm_at "bs"))
    | ((with_reducible show EvTX _ (tOr _ _) _); first | (apply t_or; (focus (wtm_at "t")); (focus (intro hq; wtm_at "t"))) | (apply t_or1; (focus (wtm_at "t")); wtm_at "bs"))
    | ((with_reducible show EvTX _ (tNot _) _); apply t_not; wtm_at "t")
    | ((with_reducible show EvTX _ (tTest (tChain _ _ _ _ _)) _); apply t_chain; (focus (wtm_at "x")); (focus (wtm_at "x")); (focus (wtm_at "x")))
    | ((with_reducible show EvTX _ (tTest _) _); apply t_T; wtm_at "x")
    | ((with_reducible show EvTX _ (tB _) _); apply t_B; wtm_at "x"))
local macro_rules | `(tactic| wtm_at "tq") => `(tactic| (apply t_is; (focus (wtm_at "t")); try wtm_at "b"))
local macro_rules | `(tactic| wtm_at "if") => `(tactic| (apply w_if; (focus (wtm_at "t"))))
local macro_rules | `(tactic| wtm_at "ifc") => `(tactic| (refine ws_if ?_; (repeat first | refine w_tNot ?_ | refine w_tB ?_ | refine w_t ?_ | wtm_at "e1" | ((with_reducible show ∃ c : Bool, _ = rB c ∧ _); refine ⟨_, rfl, ?_⟩)); refine ⟨?_, ?_⟩))
local macro_rules | `(tactic| wtm_at "w1") => `(tactic| first
    | ((with_reducible show WP _ _ _ (tSeq _ _) _); refine w_seq ?_)
    | ((with_reducible show WP _ _ _ (tAsg _ (gName _)) _); refine ws_set ?_; (wtm_at "e"); dsimp only [List.set])
    | ((with_reducible show WP _ _ _ (tRet _) _); refine ws_ret ?_; (wtm_at "e"))
    | ((with_reducible show WP _ _ _ (sFld _ (tVar _) _ _) _); refine ws_fld 0 rfl rfl (by wtm_at "s") (by wtm_at "s") ?_; (wtm_at "e"); dsimp only [List.set])
    | ((with_reducible show WP _ _ _ (tDrop _) _); refine ws_do ?_; (wtm_at "e"))
    | ((with_reducible show WP _ _ _ tNext _); (refine w_nx ?_))
    | ((with_reducible show WP _ _ _ tRetN _); refine w_ret0 ?_))
local macro_rules | `(tactic| wtm_at "w") => `(tactic| repeat ((try dsimp only); wtm_at "w1"))
theorem sc_subrows : YScope ["row", "lost", "waiting", "done", "rest", "left", "heads", "letter", "head"] ["row", "lost"] (defScope s_subrows) := ⟨⟨rfl, rfl, rfl, by decide +kernel, rfl, by decide +kernel, by decide +kernel⟩, by decide +kernel⟩
theorem b_subrows (T : Tx K mg) : Binds K T.fd_subrows ["row", "lost"] [] := T.F_subrows.bindsN fun _ _ _ _ _ _ us hl => match us, hl with | [_, _], _ => rfl
theorem x_lenTx {l : List Nat} (ha : EvX Γ t1 (rSt l)) (h : l.length ≤ 100000) : EvX Γ (tCB Mu.rLenT (tCons t1 tNil)) (nI l.length) := by
  apply EvX.by
  intro W ε
  exact e_cb (a_cons (e_x ha (a_nil (am_lenL h ⟨rfl, rfl⟩))))
theorem rising_C : ∀ {l : List Nat} {p : Nat}, risingS (ltr p) (l.map ltr) = true → (p :: l).Pairwise (· ≤ ·)
  | [], p, _ => by simp
  | x :: l, p, h => by
    have h : (!ltCps (ltr x).cps.toList (ltr p).cps.toList && risingS (ltr x) (l.map ltr)) = true := h
    obtain ⟨h1, h2⟩ := Bool.and_eq_true_iff.mp h
    have ih := rising_C h2
    have hp : p ≤ x := by
      have h1 : (!(decide (x < p) || (x == p && false))) = true := h1
      simp at h1
      exact h1
    refine List.pairwise_cons.mpr ⟨fun y hy => ?_, ih⟩
    rcases List.mem_cons.mp hy with e | e
    · rw [e]; exact hp
    · exact Nat.le_trans hp ((List.pairwise_cons.mp ih).1 y e)
theorem sortedS_C : ∀ {l : List Nat}, sortedS (l.map ltr) = true → l.Pairwise (· ≤ ·)
  | [], _ => List.Pairwise.nil
  | _ :: _, h => rising_C h
theorem app_lt60 {d a b : List Nat} (h : a < b) : d ++ a < d ++ b := by
  induction d with
  | nil => exact h
  | cons x d ih => exact List.cons_lt_cons_iff.mpr (.inr ⟨rfl, ih⟩)
theorem x_strC {Γ : Mu.Ctx} {ta : TE} {c : Nat} (h : EvX Γ ta (rC c)) : EvX Γ (tCB (fun xs H Q => ∃ a, xs = [V.str a] ∧ Q (V.str a) H) (tCons ta tNil)) (rC c) := fun σ G en H e Q q => h σ G en H e _ fun v G1 H1 g1 hv => by
  obtain rfl : v = V.str (ltr c) := hv
  exact ⟨_, rfl, q _ G1 H1 g1 rfl⟩

theorem asc_of {zs l : List Nat} (nd : zs.Nodup) (s : sortedS (zs.map ltr) = true) (hm : ∀ x, x ∈ zs ↔ x ∈ l) : zs = ascL l := by
  have h1 := sortedS_C s
  have h2 : zs.Pairwise (· < ·) := (h1.and nd).imp fun ⟨a, b⟩ => by omega
  refine List.Perm.eq_of_pairwise (le := fun a b : Nat => a < b) (fun a b _ _ h1 h2 => absurd h1 (by omega)) h2 asc_lt ?_
  exact (List.perm_ext_iff_of_nodup nd (asc_lt.imp fun h => by omega)).mpr fun x => by rw [hm, mem_asc]
theorem strs_ltr : ∀ {ys : List Str}, (∀ y ∈ ys, ∃ c : Nat, y = ltr c) → ∃ zs : List Nat, ys = zs.map ltr
  | [], _ => ⟨[], rfl⟩
  | y :: ys, h => by
    obtain ⟨c, rfl⟩ := h y List.mem_cons_self
    obtain ⟨zs, rfl⟩ := strs_ltr fun x hx => h x (List.mem_cons_of_mem _ hx)
    exact ⟨c :: zs, rfl⟩
theorem ltr_one {a b : Nat} (h : ltr a = ltr b) : a = b := by
  have := congrArg (fun s : Str => s.cps.toList) h
  simpa [ltr] using this
theorem xn_sortedSetC {Γ : Mu.Ctx} {te : TE} {P : Program} {w : World} {l : List Nat} (h : EvX Γ te (rL K (l.map rC))) (hl : l.length < 64) : EvNX Γ (tCB (rSortedLS P w) (tCons (tCB (rSetLS K P w) (tCons te tNil)) tNil)) ((ascL l).map rC) := fun σ G en H e Q q => h σ G en H e _ fun v G1 H1 g1 hv => by
  obtain ⟨a, ws, rfl, h1, h2⟩ := hv
  have e1 : l.map rC = (l.map fun c => V.str (ltr c)).map rV := by rw [List.map_map]; rfl
  rw [e1] at h2
  have e2 := ra_valsE h2
  subst e2
  refine ⟨a, l.map ltr, rfl, ?_, by rw [List.length_map]; omega, fun p hp => ?_⟩
  · rw [List.map_map]
    exact sq_of (g1.i _ _ h1)
  · refine ⟨p, _, rfl, upd_same, by rw [List.length_map]; exact hl, fun ys p2 hd hs hm hp2 => ?_⟩
    obtain ⟨zs, rfl⟩ := strs_ltr (ys := ys) fun y hy => by
      obtain ⟨c, _, rfl⟩ := List.mem_map.mp ((hm y).mp hy)
      exact ⟨c, rfl⟩
    have hmem : ∀ x, x ∈ zs ↔ x ∈ l := fun x => by
      have := hm (ltr x)
      rw [List.mem_map, List.mem_map] at this
      exact ⟨fun z => by obtain ⟨c, hc, e⟩ := this.mp ⟨x, z, rfl⟩; exact ltr_one e ▸ hc, fun z => by obtain ⟨c, hc, e⟩ := this.mpr ⟨x, z, rfl⟩; exact ltr_one e ▸ hc⟩
    have nd : zs.Nodup := List.Pairwise.of_map ltr (fun a b h z => h (by rw [z])) hd
    have e3 := asc_of nd hs hmem
    subst e3
    have gr1 := g1.trans (Gr.out (o := SetS P w p (l.map ltr)) g1.i hp)
    have gr2 := gr1.trans (Gr.out (o := .lst (((ascL l).map ltr).map V.str)) gr1.i hp2)
    refine q p2 _ G1 _ gr2 (fresh_back gr1.h hp2) (fresh_back gr1.i hp2) upd_same ?_
    rw [List.map_map]
    have e4 : (ascL l).map rC = ((ascL l).map fun c => V.str (ltr c)).map rV := by rw [List.map_map]; rfl
    rw [e4]
    exact ra_valsG _

def fstI (c : Nat) : List Nat → Nat
  | [] => 0
  | a :: l => if a = c then 0 else fstI c l + 1
theorem fst_at {c : Nat} : ∀ {l : List Nat}, c ∈ l → l[fstI c l]? = some c ∧ ∀ j, j < fstI c l → l[j]? ≠ some c
  | [], h => nomatch h
  | a :: l, h => by
    unfold fstI
    by_cases e : a = c
    · rw [if_pos e]
      exact ⟨by simp [e], fun j hj => absurd hj (Nat.not_lt_zero _)⟩
    · rw [if_neg e]
      obtain ⟨h1, h2⟩ := fst_at ((List.mem_cons.mp h).resolve_left fun z => e z.symm)
      refine ⟨by simpa using h1, fun j hj => ?_⟩
      cases j with
      | zero => simpa using e
      | succ j => simpa using h2 j (by omega)
theorem fst_le {c j : Nat} {l : List Nat} (h : l[j]? = some c) : fstI c l ≤ j := by
  have := (fst_at (List.mem_of_getElem? h)).2 j
  rcases Nat.lt_or_ge j (fstI c l) with z | z
  · exact absurd h (this z)
  · exact z
theorem fst_take {c m : Nat} {l : List Nat} (h : c ∈ l.take m) : fstI c (l.take m) = fstI c l := by
  obtain ⟨h1, h2⟩ := fst_at h
  have lt : fstI c (l.take m) < m := by
    have := (List.getElem?_eq_some_iff.mp h1).1
    rw [List.length_take] at this
    omega
  rw [List.getElem?_take_of_lt lt] at h1
  refine Nat.le_antisymm ?_ (fst_le h1)
  rcases Nat.lt_or_ge (fstI c l) (fstI c (l.take m)) with z | z
  · have h3 := (fst_at (List.mem_of_getElem? h1)).1
    exact absurd (by rw [List.getElem?_take_of_lt (by omega)]; exact h3) (h2 _ z)
  · exact z
def hdS (k : Nat) (r : List Nat) : List Nat := r.take (r.length - k)
def resS (k c : Nat) (r : List Nat) : List Nat := r.drop (fstI c (hdS k r) + 1)
def subF : Nat → List Nat → List Nat → List (List Nat)
  | 0, d, _ => [d]
  | k + 1, d, r => (ascL (hdS k r)).flatMap fun c => subF k (d ++ [c]) (resS k c r)
theorem res_len {k c : Nat} {r : List Nat} (h : c ∈ hdS k r) : k ≤ (resS k c r).length ∧ (resS k c r).length + 1 ≤ r.length := by
  have h1 := (List.getElem?_eq_some_iff.mp (fst_at h).1).1
  unfold resS
  unfold hdS at h1 ⊢
  rw [List.length_take] at h1
  rw [List.length_drop]
  omega
theorem mem_subF : ∀ (k : Nat) (d r w : List Nat), k ≤ r.length → (w ∈ subF k d r ↔ ∃ s, w = d ++ s ∧ s.length = k ∧ s.Sublist r)
  | 0, d, r, w, _ => by
    rw [subF, List.mem_singleton]
    exact ⟨fun h => ⟨[], by rw [h, List.append_nil], rfl, List.nil_sublist _⟩, fun ⟨s, h1, h2, _⟩ => by rw [h1, List.length_eq_zero_iff.mp h2, List.append_nil]⟩
  | k + 1, d, r, w, hk => by
    rw [subF, List.mem_flatMap]
    constructor
    · rintro ⟨c, hc, hw⟩
      have hc := mem_asc.mp hc
      obtain ⟨s, rfl, hs, hr⟩ := (mem_subF k _ _ w (res_len hc).1).mp hw
      refine ⟨c :: s, by simp, by rw [List.length_cons, hs], ?_⟩
      have h1 := (fst_at hc).1
      have hl0 : (hdS k r).length ≤ r.length - k := by
        unfold hdS
        rw [List.length_take]
        omega
      have lt2 : fstI c (hdS k r) < r.length - k := Nat.lt_of_lt_of_le (List.getElem?_eq_some_iff.mp h1).1 hl0
      have lt : fstI c (hdS k r) < r.length := by omega
      have h2 : r[fstI c (hdS k r)]? = some c := by
        have h3 : (r.take (r.length - k))[fstI c (hdS k r)]? = some c := h1
        rwa [List.getElem?_take_of_lt lt2] at h3
      have e : r.drop (fstI c (hdS k r)) = c :: resS k c r := by
        have e3 := List.getElem_cons_drop lt
        rw [(List.getElem?_eq_some_iff.mp h2).2] at e3
        exact e3.symm
      have : (c :: s).Sublist (r.drop (fstI c (hdS k r))) := by rw [e]; exact hr.cons_cons c
      exact this.trans (List.drop_sublist _ _)
    · rintro ⟨s, rfl, hs, hr⟩
      match s, hs with
      | c :: s, hs =>
        rw [List.length_cons] at hs
        obtain ⟨r1, r2, e, h1, h2⟩ := List.cons_sublist_iff.mp hr
        have hl2 := h2.length_le
        have hlr : r.length = r1.length + r2.length := by rw [e, List.length_append]
        obtain ⟨i, hi⟩ := List.getElem?_of_mem h1
        have hi1 := (List.getElem?_eq_some_iff.mp hi).1
        have hri : r[i]? = some c := by rw [e, List.getElem?_append_left hi1]; exact hi
        have hc : c ∈ hdS k r := List.mem_of_getElem? (i := i) (by unfold hdS; rw [List.getElem?_take_of_lt (by omega)]; exact hri)
        refine ⟨c, mem_asc.mpr hc, (mem_subF k _ _ _ (res_len hc).1).mpr ⟨s, by simp, by omega, ?_⟩⟩
        unfold resS
        have hf : fstI c (hdS k r) ≤ i := by
          unfold hdS at hc ⊢
          rw [fst_take hc]; exact fst_le hri
        have e2 : r.drop r1.length = r2 := by rw [e, List.drop_left]
        have : r2.Sublist (r.drop (fstI c (hdS k r) + 1)) := by
          rw [← e2]
          have : r.drop r1.length = (r.drop (fstI c (hdS k r) + 1)).drop (r1.length - (fstI c (hdS k r) + 1)) := by
            rw [List.drop_drop]
            congr 1
            omega
          rw [this]
          exact List.drop_sublist _ _
        exact h2.trans this
theorem subF_sorted : ∀ (k : Nat) (d r : List Nat), k ≤ r.length → (subF k d r).Pairwise (· < ·)
  | 0, d, r, _ => by rw [subF]; simp
  | k + 1, d, r, h => by
    rw [subF, List.pairwise_flatMap]
    refine ⟨fun c hc => subF_sorted k _ _ (res_len (mem_asc.mp hc)).1, ?_⟩
    refine List.Pairwise.imp_of_mem ?_ (asc_lt (l := hdS k r))
    intro p q hp hq hpq x hx y hy
    obtain ⟨s, rfl, _⟩ := (mem_subF k _ _ x (res_len (mem_asc.mp hp)).1).mp hx
    obtain ⟨u, rfl, _⟩ := (mem_subF k _ _ y (res_len (mem_asc.mp hq)).1).mp hy
    rw [List.append_assoc, List.append_assoc]
    exact app_lt60 (List.cons_lt_cons_iff.mpr (.inl hpq))
def subO (row : List Nat) (z : Int) : List (List Nat) := if 0 ≤ z ∧ z ≤ (row.length : Int) then subF (row.length - z.toNat) [] row else []
theorem asc_len {l : List Nat} : (ascL l).length ≤ l.length := L2.nat_nodup_len _ _ (asc_lt.imp fun h => by omega) fun x hx => mem_asc.mp hx
abbrev EnS := List Nat × List Nat
def rPs (K : PySem.W.Frag) (e : EnS) : Rp := rT K [rSt e.1, rSt e.2]
def subE (T : Nat) (e : EnS) : List (List Nat) := subF (T - e.1.length) e.1 e.2
def ndS : Nat → Nat
  | 0 => 1
  | k + 1 => 1 + 60 * ndS k
theorem ndS_pos : ∀ k, 0 < ndS k
  | 0 => Nat.one_pos
  | k + 1 => by rw [ndS]; omega
def msS (T : Nat) (st : List EnS) : Nat := (st.map fun e => ndS (T - e.1.length)).sum
theorem ms_appS {T : Nat} {a b : List EnS} : msS T (a ++ b) = msS T a + msS T b := by
  unfold msS
  rw [List.map_append, List.sum_append]
def pushS (d r : List Nat) (k : Nat) (L : List Nat) : List EnS := L.map fun c => (d ++ [c], resS k c r)
theorem ms_pushS {T k : Nat} {d r : List Nat} (h : T - d.length = k + 1) : ∀ L : List Nat, msS T (pushS d r k L) = L.length * ndS k
  | [] => by unfold msS pushS; simp
  | c :: L => by
    have ih := ms_pushS (r := r) h L
    unfold msS pushS at ih ⊢
    rw [List.map_cons, List.map_cons, List.sum_cons, ih, List.length_cons, Nat.succ_mul, Nat.add_comm]
    dsimp only
    rw [List.length_append, show T - (d.length + [c].length) = k by show T - (d.length + 1) = k; omega]
structure StS (st : List EnS) : Prop where
  mono : st.Pairwise fun a b => a.1.length ≤ b.1.length
  cnt : ∀ k, (st.filter fun e => decide (e.1.length = k)).length ≤ 60
theorem len_S : ∀ (N : Nat) (l : List EnS), (∀ e ∈ l, e.1.length < N) → (∀ k, (l.filter fun e => decide (e.1.length = k)).length ≤ 60) → l.length ≤ N * 60
  | 0, l, h, _ => by
    cases l with
    | nil => simp
    | cons e l => exact absurd (h e List.mem_cons_self) (by omega)
  | N + 1, l, h, hc => by
    have h1 := len_S N (l.filter fun e => !decide (e.1.length = N)) (fun e he => by
      obtain ⟨h2, h3⟩ := List.mem_filter.mp he
      have := h e h2
      simp at h3
      omega) (fun k => Nat.le_trans ((List.filter_sublist (p := fun e : EnS => !decide (e.1.length = N)) (l := l)).filter (fun e => decide (e.1.length = k))).length_le (hc k))
    have h2 := hc N
    have h3 : l.length = (l.filter fun e => decide (e.1.length = N)).length + (l.filter fun e => !decide (e.1.length = N)).length := by
      clear h hc h1 h2
      induction l with
      | nil => rfl
      | cons e l ih =>
        rw [List.filter_cons, List.filter_cons]
        by_cases z : e.1.length = N
        · simp [z] at ih ⊢; omega
        · simp [z] at ih ⊢; omega
    rw [Nat.succ_mul]
    omega
theorem StS.pop {w : List EnS} {d r : List Nat} {k : Nat} {L : List Nat} (h : StS (w ++ [(d, r)])) (hL : L.length ≤ 60) : StS (w ++ pushS d r k L) := by
  have h1 := List.pairwise_append.mp h.mono
  have top : ∀ e ∈ w, e.1.length ≤ d.length := fun e he => h1.2.2 e he (d, r) (List.mem_singleton.mpr rfl)
  have hp : ∀ e ∈ pushS d r k L, e.1.length = d.length + 1 := fun e he => by
    obtain ⟨c, _, rfl⟩ := List.mem_map.mp he
    rw [List.length_append]; rfl
  refine ⟨List.pairwise_append.mpr ⟨h1.1, List.pairwise_of_forall_mem_list fun a ha b hb => by rw [hp a ha, hp b hb]; exact Nat.le_refl _, fun a ha b hb => by rw [hp b hb]; have := top a ha; omega⟩, fun j => ?_⟩
  rw [List.filter_append, List.length_append]
  by_cases hj : j = d.length + 1
  · have e1 : (w.filter fun e => decide (e.1.length = j)) = [] := by
      rw [List.filter_eq_nil_iff]
      intro e he z
      have := top e he
      have := of_decide_eq_true z
      omega
    have h2 := List.length_filter_le (fun e : EnS => decide (e.1.length = j)) (pushS d r k L)
    have h3 : (pushS d r k L).length = L.length := List.length_map _
    rw [e1]
    simp only [List.length_nil]
    omega
  · have e1 : ((pushS d r k L).filter fun e => decide (e.1.length = j)) = [] := by
      rw [List.filter_eq_nil_iff]
      intro e he z
      have h2 := hp e he
      have h3 := of_decide_eq_true z
      omega
    rw [e1]
    have := h.cnt j
    rw [List.filter_append, List.length_append] at this
    simp only [List.length_nil]
    omega
theorem StS.one {d r : List Nat} : StS [(d, r)] := ⟨by simp, fun k => Nat.le_trans (List.length_filter_le _ _) (by simp)⟩
theorem StS.none : StS [] := ⟨List.Pairwise.nil, fun k => by simp⟩
theorem StS.less {w : List EnS} {e : EnS} (h : StS (w ++ [e])) : StS w := ⟨(List.pairwise_append.mp h.mono).1, fun k => by
  have := h.cnt k
  rw [List.filter_append, List.length_append] at this
  omega⟩
theorem subE_step {T k : Nat} {d r : List Nat} (h : T - d.length = k + 1) : subE T (d, r) = (pushS d r k (ascL (hdS k r))).flatMap (subE T) := by
  unfold subE pushS
  dsimp only
  rw [h, subF, List.flatMap_map]
  have e : ∀ c : Nat, T - (d ++ [c]).length = k := fun c => by rw [List.length_append]; show T - (d.length + 1) = k; omega
  congr 1
  funext c
  dsimp only
  rw [e]

def R_subrows (T : Tx K mg) : List V → Hp → List Rp → Prop := fun vs G out => ∃ (row : List Nat) (z : Int), RA G vs [rSt row, Mu.rI z] ∧ (row.length ≤ 52) ∧ out = (subO row z).map rSt
theorem ok_subrows (T : Tx K mg) : GnY P w K mg base 1 T.f_subrows T.fd_subrows ["row", "lost"] (spYl (R_subrows T)) := by
  refine okGY T.F_subrows sc_subrows (fun vs γ yl Q h => ?_) (fun cdv A outer pn L E hr hF => ?_)
  · obtain ⟨G, out, m, _, _, ⟨row, z, ra, _⟩, _⟩ := h
    exact ra.len
  · refine ⟨_, (g2s_cons (g2_ps' fun _ _ => (ps_set (i := 2) sc_subrows.nd rfl (Or.inl rfl) (pe_lst pa_nil)))
      (g2s_cons (g2_ps' fun _ _ => (ps_if (pt_chain op_le op_le pe_int (pv 1) (pe_callB call_lenT (by rfl) T.m_len PySem.boot_len (pa_cons (pv 0) pa_nil))) (pss_one (ps_expr (pe_yb K (pe_bm PySem.F.plainAttrs_list PySem.F.slot_list_append PySem.F.type_list_append mt_append (pv 2) (pa_cons (pe_tup (pa_cons pe_str (pa_cons (pv 0) pa_nil))) pa_nil))))) pss_nil))
      (g2s_cons (g2_while' (fun _ _ => (pt_cmpR op_gt (pe_callB (call_lenK K) (by rfl) T.m_len PySem.boot_len (pa_cons (pv 2) pa_nil)) pe_int (nomark _))) (g2s_cons (g2_ps' fun _ _ => (ps_asg (pe_yb0 K (pe_bm0 PySem.F.plainAttrs_list PySem.F.slot_list_pop PySem.F.type_list_pop mt_pop (pv 2))) (pg_yt K (pg_tup (n := 2) rfl (pgs_cons (pg_name (i := 3) sc_subrows.nd rfl (Or.inl rfl)) (pgs_cons (pg_name (i := 4) sc_subrows.nd rfl (Or.inl rfl)) pgs_nil))))))
      (g2s_cons (g2_ps' fun _ _ => (ps_set (i := 5) sc_subrows.nd rfl (Or.inl rfl) (pe_op op_sub (pe_op op_sub (pe_callB call_lenT (by rfl) T.m_len PySem.boot_len (pa_cons (pv 0) pa_nil)) (pv 1)) (pe_callB call_lenT (by rfl) T.m_len PySem.boot_len (pa_cons (pv 3) pa_nil)))))
      (g2s_cons (g2_if' (fun _ _ => (pt_cmpR op_eq (pv 5) pe_int (nomark _))) (g2s_cons (g2_yield' fun _ _ => (pv 3))
      (g2s_cons (g2_ps' fun _ _ => ps_continue)
      g2s_nil)) g2s_nil)
      (g2s_cons (g2_ps' fun _ _ => (ps_set (i := 6) sc_subrows.nd rfl (Or.inl rfl) (pe_slice sl_str (pv 4) po_none (po_some (pe_op op_add (pe_op op_sub (pe_callB call_lenT (by rfl) T.m_len PySem.boot_len (pa_cons (pv 4) pa_nil)) (pv 5)) pe_int)))))
      (g2s_cons (g2_ps' fun _ _ => (ps_for PassesOwn.never rfl (pi_listK K (pe_revSl (pe_callB (cr_sortedLSN P w rfl) (by rfl) T.m_sorted (by decide +kernel) (pa_cons (pe_callTy (cr_setLSN P w K rfl) (by rfl) T.m_set (by decide +kernel) (pa_cons (pe_lc (own := [("head", 8)]) (by rfl) sc_subrows.nd (pi_str (pv 6)) (blkOk_by (N := ["row", "lost", "waiting", "done", "rest", "left", "heads", "letter", "head"]) (sc := defScope s_subrows) (by decide +kernel)) (fun _ _ _ _ _ => (pg_name (i := 8) sc_subrows.nd rfl (Or.inl rfl))) (fun _ _ _ _ _ => pts_nil) (fun _ _ _ _ _ => (pe_callTy SkE.call_str_str (by rfl) T.m_str (by decide +kernel) (pa_cons (pv 8) pa_nil)))) pa_nil)) pa_nil)) (pe_un un_neg pe_int))) (pg_name (i := 7) sc_subrows.nd rfl (Or.inl rfl)) (pss_one (ps_expr (pe_yb K (pe_bm PySem.F.plainAttrs_list PySem.F.slot_list_append PySem.F.type_list_append mt_append (pv 2) (pa_cons (pe_tup (pa_cons (pe_op op_addT (pv 3) (pv 7)) (pa_cons (pe_slice sl_str (pv 4) (po_some (pe_op op_add (pe_yb K (pe_bm PySem.F.plainAttrs_str PySem.F.slot_str_find PySem.F.type_str_find mt_findT (pv 6) (pa_cons (pv 7) pa_nil))) pe_int)) po_none) pa_nil))) pa_nil)))))))
      g2s_nil))))))
      g2s_nil))), fun vs γ yl Q h => ?_⟩
    obtain ⟨G, out, m, hy, e, ⟨row, z, ra, q0, eo⟩, hm, dm⟩ := h
    refine run_Y (Γ := [some (rSt row), some (Mu.rI z), none, none, none, none, none, none, none]) ?_ hy e hm dm (En.start (k := 7) _ (rs := [rSt row, Mu.rI z]) ra (by rw [ra.len]; rfl))
    clear ra hm dm e hy
    obtain ⟨D0, hD0⟩ : ∃ D0, D0 = subO row z := ⟨_, rfl⟩
    have eo' : out = D0.map rSt := by rw [eo, hD0]
    obtain ⟨N, hN⟩ : ∃ N, N = row.length := ⟨_, rfl⟩
    obtain ⟨tn, hT⟩ : ∃ tn, tn = N - z.toNat := ⟨_, rfl⟩
    have hTN : tn ≤ N := by omega
    refine y_seq (y_ps (ws_set (e_lstN (a_nil ⟨by show 0 ≤ 100000; decide, fun p => ?_⟩))))
    try dsimp only [List.set, List.cons_append, List.nil_append]
    refine y_cut (fun st : List EnS => StS st ∧ st.reverse.flatMap (subE tn) = D0 ∧ (∀ e ∈ st, 0 ≤ z ∧ z ≤ (N : Int) ∧ e.1.length ≤ tn ∧ tn ≤ e.1.length + e.2.length ∧ e.2.length ≤ N)) (fun _ => 0) (fun _ => [some (rSt row), some (Mu.rI z), some (rV (.ref p)), none, none, none, none, none, none]) (fun st => [lstR p (st.map (rPs K))]) ?_ fun st0 hst0 => ?_
    · refine y_ps (w_if (b := decide (0 ≤ z) && decide (z ≤ (N : Int))) (t_is (t_chain (x_cn 0) (x_v rfl) (x_lenTx (x_v rfl) (by omega))) (by rw [hN]; rfl)) (fun hb => ?_) fun hb => ?_)
      · have hb1 := of_decide_eq_true (Bool.and_eq_true_iff.mp hb).1
        have hb2 := of_decide_eq_true (Bool.and_eq_true_iff.mp hb).2
        refine ws_do (e_app 0 rfl (e_x (r := rPs K ([], row)) (x_tup (xa_cons (x_is x_c rfl) (xa_cons (x_v rfl) xa_nil)) (by show 2 ≤ 100000; decide)) ⟨_, rfl, by show 0 < _; decide, ?_⟩) rfl)
        refine ⟨[([], row)], ⟨StS.one, ?_, fun e he => ?_⟩, rfl, by wtm_at "sub", rfl⟩
        · rw [hD0]
          unfold subO
          rw [if_pos ⟨hb1, by rw [← hN]; exact hb2⟩]
          simp [subE, hT, hN]
        · rw [List.mem_singleton.mp he]
          refine ⟨hb1, hb2, Nat.zero_le _, ?_, ?_⟩
          · show tn ≤ 0 + row.length
            omega
          · show row.length ≤ N
            omega
      · refine w_nx ⟨[], ⟨StS.none, ?_, fun e he => nomatch he⟩, rfl, by wtm_at "sub", rfl⟩
        rw [hD0]
        unfold subO
        rw [if_neg]
        · rfl
        · rintro ⟨a, b⟩
          rw [decide_eq_true a, decide_eq_true (by rw [hN]; exact b)] at hb
          exact nomatch hb
    obtain ⟨hB0, hall0, hlen0⟩ := hst0
    refine y_seq (y_while (α := List (List Nat) × List EnS) (fun m z' => m = msS tn z'.2 ∧ z'.1 ++ z'.2.reverse.flatMap (subE tn) = D0 ∧ (∀ e ∈ z'.2, 0 ≤ z ∧ z ≤ (N : Int) ∧ e.1.length ≤ tn ∧ tn ≤ e.1.length + e.2.length ∧ e.2.length ≤ N) ∧ StS z'.2) (fun z' => z'.1.length) (fun _ => [some (rSt row), some (Mu.rI z), some (rV (.ref p)), none, none, none, none, none, none]) (fun z' => [lstR p (z'.2.map (rPs K))]) (msS tn st0) ([], st0) ⟨rfl, by rw [← hall0]; rfl, hlen0, hB0⟩ rfl (by wtm_at "sub") rfl fun m z' hz => ?_)
    obtain ⟨outs, st⟩ := z'
    obtain ⟨hm, hall, hlen, hB⟩ := hz
    dsimp only at hm hall hlen hB ⊢
    refine ⟨decide (0 < st.length), EXT.ofW fun W => et_bx (fun _ => false) (bx_set (i := 2) bx_refl rfl (bx_lst (K := K) (k := 0) rfl)) ?_ ⟨rfl, rfl⟩, fun hb => ?_, fun hb => ?_⟩
    · dsimp only [List.set]
      exact t_T (x_gtN (x_lenLm (l := st) (ρ := rPs K) (x_v rfl)) (x_cn 0))
    · have hb := of_decide_eq_true hb
      obtain ⟨w, ⟨d, r⟩, rfl⟩ : ∃ w e, st = w ++ [e] := by
        rcases List.eq_nil_or_concat st with e | ⟨w, e, h⟩
        · rw [e] at hb; exact absurd hb (by decide)
        · exact ⟨w, e, by rw [h, List.concat_eq_append]⟩
      obtain ⟨hz0, hzN, hd1, hd2, hd3⟩ := hlen (d, r) (List.mem_append_right _ (List.mem_singleton.mpr rfl))
      dsimp only at hd1 hd2 hd3
      have hwl : w.length ≤ 53 * 60 := by
        have := len_S 53 (w ++ [(d, r)]) (fun e he => by have := (hlen e he).2.2.1; omega) hB.cnt
        rw [List.length_append] at this
        omega
      rw [ms_appS] at hm
      have hms1 : msS tn [(d, r)] = ndS (tn - d.length) := by unfold msS; simp
      rw [hms1] at hm
      have hnd := ndS_pos (tn - d.length)
      refine y_seq (y_ps (w_un (e_popL (r := rPs K (d, r)) (rs := w.map (rPs K)) 0 rfl (by rw [List.map_append]; rfl) ⟨_, tgt_2, ?_⟩)))
      dsimp only [setsC, List.foldl, List.set, GKy.at_]
      obtain ⟨j, hj⟩ : ∃ j, j = tn - d.length := ⟨_, rfl⟩
      refine y_seq (y_ps (ws_set (e_x (r := nI j) (x_is (x_I0 (x_I0 (x_lenTx (x_v rfl) (by omega)) (x_v rfl)) (x_lenTx (x_v rfl) (by omega))) ?_) ?_)))
      · show Mu.rI _ = Mu.rI _
        congr 1
        omega
      try dsimp only [List.set, GKy.at_]
      refine y_seq (y_if (decide (j = 0)) (ext_t (t_T (x_eqN (x_v rfl) (x_cn 0)))) (fun hr => ?_) fun hr => ?_)
      · have hr := of_decide_eq_true hr
        have hD : outs ++ ([d] ++ w.reverse.flatMap (subE tn)) = D0 := by
          rw [← hall, List.reverse_append, List.flatMap_append]
          simp [subE, ← hj, hr, subF]
        refine y_seq (y_yield (r := rSt d) (x_v rfl) ?_ (y_seq (y_ps (w_cnt ?_))))
        · rw [eo', ← hD, List.getElem?_map, List.getElem?_append_right (Nat.le_refl _), Nat.sub_self]
          rfl
        · refine ⟨msS tn w, (outs ++ [d], w), by omega, ⟨rfl, by rw [List.append_assoc]; exact hD, fun e he => hlen e (List.mem_append_left _ he), hB.less⟩, ?_, by wtm_at "sub", rfl⟩
          rw [List.length_append]; rfl
      · have hr := of_decide_eq_false hr
        refine y_nil ?_
        obtain ⟨k, hk⟩ : ∃ k, j = k + 1 := ⟨j - 1, by omega⟩
        have hjk : tn - d.length = k + 1 := by omega
        have hkr : k + 1 ≤ r.length := by omega
        obtain ⟨hs, hhs⟩ : ∃ hs, hs = hdS k r := ⟨_, rfl⟩
        have hsl : hs.length = r.length - k := by rw [hhs]; unfold hdS; rw [List.length_take]; omega
        have hsl52 : hs.length ≤ 52 := by omega
        refine y_seq (y_ps (ws_set (e_sSTo (n := r.length - k) (x_is (x_I0 (x_I0 (x_lenTx (x_v rfl) (by omega)) (x_v rfl)) (x_cn 1)) ?_) (e_v rfl ⟨r, rfl, by omega, by omega, ?_⟩))))
        · show Mu.rI _ = Mu.rI _
          congr 1
          omega
        try dsimp only [List.set, GKy.at_]
        rw [show r.take (r.length - k) = hs by rw [hhs]; rfl]
        obtain ⟨L, hL⟩ : ∃ L, L = (ascL hs).reverse := ⟨_, rfl⟩
        have hLl : L.length ≤ 52 := by
          rw [hL, List.length_reverse]
          exact Nat.le_trans asc_len hsl52
        have hLm : ∀ c ∈ L, c ∈ hdS k r := fun c hc => by
          rw [hL] at hc
          rw [← hhs]
          exact mem_asc.mp (List.mem_reverse.mp hc)
        refine y_seq (y_ps (w_forL (K := K) L rC (fun _ (_ : Unit) => True) (fun _ _ => [some (rSt row), some (Mu.rI z), some (rV (.ref p)), some (rSt d), some (rSt r), none, some (rSt hs), none, none]) (fun i _ => [lstR p ((w ++ pushS d r k (L.take i)).map (rPs K))]) (x_is (EvNX.d (K := K) (x_revL (EvNX.d (K := K) (xn_sortedSetC (l := hs) (EvNX.d (K := K) (xn_lcI0 (l := hs) (ρ := rC) (rr := rC) (ix_T (x_v rfl)) (by omega) (fun c hc => x_strC (x_v rfl)) (by simp))) (by omega))) (x_is (x_neg (x_cn 1)) rfl))) (by rw [hL, List.map_reverse])) () trivial (by wtm_at "sub") (by unfold pushS; simp) (fun i _ c hc _ => ?_) (fun _ _ => ?_)))
        · dsimp only [List.set]
          have hcm := hLm c (List.mem_of_getElem? hc)
          have hcs : c ∈ hs := hhs ▸ hcm
          obtain ⟨f1, f2⟩ := fst_at hcs
          have flt := (List.getElem?_eq_some_iff.mp f1).1
          refine ws_do (e_app 0 rfl (e_x (r := rPs K (d ++ [c], resS k c r)) (x_tup (xa_cons (EvX.by fun W ε => e_op (e_v rfl (e_v rfl (om_addL (l := d) (l' := [c]) (by show d.length + 1 ≤ _; omega) ⟨rfl, rfl⟩)))) (xa_cons (EvX.by fun W ε => e_sSFrom (n := fstI c hs + 1) (x_addN (EvX.by fun W ε => e_find (e_x (x_v rfl) ⟨_, rfl, e_x (x_v rfl) ⟨_, rfl, by rw [find_at f1 f2]; exact ⟨rfl, rfl⟩⟩⟩)) (x_cn 1)) (e_v rfl ⟨r, rfl, by omega, by omega, ⟨by unfold resS; rw [← hhs], rfl⟩⟩)) xa_nil)) (by show 2 ≤ 100000; decide)) ⟨_, rfl, ?_, ?_⟩) rfl)
          · have h1 : (pushS d r k (L.take i)).length ≤ 52 := by
              unfold pushS
              rw [List.length_map, List.length_take]
              omega
            rw [List.length_map, List.length_append]
            omega
          refine ⟨(), trivial, by wtm_at "sub", ?_⟩
          dsimp only [List.set]
          rw [List.take_add_one, hc]
          unfold pushS
          simp only [List.map_append, List.map_cons, List.map_nil, Option.toList_some, List.append_assoc]
        · rw [List.take_length]
          refine y_nil ?_
          have hpm : ∀ e ∈ pushS d r k L, 0 ≤ z ∧ z ≤ (N : Int) ∧ e.1.length ≤ tn ∧ tn ≤ e.1.length + e.2.length ∧ e.2.length ≤ N := fun e he => by
            obtain ⟨c, hc, rfl⟩ := List.mem_map.mp he
            have := res_len (hLm c hc)
            dsimp only
            rw [List.length_append]
            refine ⟨hz0, hzN, ?_, ?_, by omega⟩
            · show d.length + 1 ≤ tn
              omega
            · show tn ≤ d.length + 1 + _
              omega
          refine ⟨msS tn (w ++ pushS d r k L), (outs, w ++ pushS d r k L), ?_, ⟨rfl, ?_, fun e he => (List.mem_append.mp he).elim (fun y => hlen e (List.mem_append_left _ y)) (hpm e), hB.pop (by omega)⟩, rfl, by wtm_at "sub", rfl⟩
          · rw [ms_appS, ms_pushS hjk, hm, hjk, ndS]
            have := Nat.mul_le_mul_right (ndS k) (show L.length ≤ 60 by omega)
            omega
          · rw [← hall, List.reverse_append, List.reverse_append, List.flatMap_append, List.flatMap_append]
            congr 2
            rw [show ([(d, r)] : List EnS).reverse.flatMap (subE tn) = subE tn (d, r) by simp, subE_step hjk, ← hhs, hL]
            unfold pushS
            rw [List.map_reverse, List.reverse_reverse]
    · have hb := of_decide_eq_false hb
      have hst : st = [] := List.length_eq_zero_iff.mp (by omega)
      subst hst
      refine y_nil ?_
      have e : outs = D0 := by simpa using hall
      rw [eo', e]
      simp
theorem yl_subrows (T : Tx K mg) {Γ : Mu.Ctx} {t0 t1 : TE} {row : List Nat} {z : Int} (h0 : EvX Γ t0 (rSt row)) (h1 : EvX Γ t1 (Mu.rI z)) (q0 : row.length ≤ 52) : EvY Γ (tCallY (spYl (R_subrows T)) 2 (tCons t0 (tCons t1 tNil))) ((subO row z).map rSt) := y_call (xa_cons h0 (xa_cons h1 xa_nil)) rfl fun vs G ra => ⟨row, z, ra, q0, rfl⟩
theorem sc__law_box : FnScope ["_law_script", "_law_cell"] ["_law_script"] (defScope s__law_box) := ⟨rfl, rfl, rfl, by decide +kernel, rfl, by decide +kernel, by decide +kernel⟩
theorem b__law_box (T : Tx K mg) : Binds K T.fd__law_box ["_law_script"] [] := T.F__law_box.bindsN fun _ _ _ _ _ _ us hl => match us, hl with | [_], _ => rfl
theorem ok__law_box (T : Tx K mg) : FnOk P w K mg base CX0 1 T.f__law_box T.fd__law_box ["_law_script"] (spBoxMk K) := by
  refine T.F__law_box.ok sc__law_box (fun vs H Q E h => ?_) (fun cdv A outer s H vs Q E hr h => ?_)
  · obtain ⟨a, ns, rfl, _⟩ := h
    rfl
  · obtain ⟨a, ns, rfl, hS, hl, k⟩ := h
    refine ⟨_, PSs.nox (pss_one (ps_ret (pe_lst (pa_cons (pe_lc (own := [("_law_cell", 1)]) (by rfl) sc__law_box.nd (pi_listK K (pe_slice (sl_listK K) (pv 0) po_none (po_some pe_int))) (blkOk_by (N := ["_law_script", "_law_cell"]) (sc := defScope s__law_box) (by decide +kernel)) (fun _ _ _ _ _ => (pg_name (i := 1) sc__law_box.nd rfl (Or.inl rfl))) (fun _ _ _ _ _ => pts_nil) (fun _ _ _ _ _ => (pe_callB call_abs (by rfl) T.m_abs (by decide +kernel) (pa_cons (pe_callTy call_int1 (by rfl) T.m_int (by decide +kernel) (pa_cons (pv 1) pa_nil)) pa_nil)))) (pa_cons pe_int (pa_cons pe_int (pa_cons pe_int pa_nil))))))), ?_⟩
    have hcut : cutR (ns.map Mu.rI) none (some 63) = (cutR ns none (some 63)).map Mu.rI := cutR_map _ _ _ _
    have hcl : (cutR ns none (some 63)).length ≤ 63 := by
      unfold cutR
      rw [List.length_take, List.length_drop]; omega
    have src : EvD (tSl (rSlL K) (tVar 0) tNoPart (tPart (tC (.int 63)))) [some (V.ref a), none] H (rL K ((cutR ns none (some 63)).map Mu.rI)) := hcut ▸ EvN.d (en_slL (ed_var (r := rLs K (ns.map Mu.rI)) rfl ⟨a, _, rfl, hS, ra_ints⟩) (fun _ _ => eo_none) (fun _ _ => eo_some ev_c))
    have lc := en_lcL0 (cutR ns none (some 63)) Mu.rI (fun i => Mu.rI (if i < 0 then -i else i)) src (by omega) (vs := [1]) (j := 1) (fun _ => rfl) (te := tCB (fun xs H Q => ∃ i, xs = [.int i] ∧ Q (.int (if i < 0 then -i else i)) H) (tCons (tCB (fun xs H Q => (∃ i, xs = [.int i] ∧ Q (.int i) H) ∨ ∃ k, xs = [.bl k] ∧ Q (.int (if k then 1 else 0)) H) (tCons (tVar 1) tNil)) tNil)) fun i y G1 hi e1 hy => by
      obtain rfl : y = V.int i := hy
      exact Ev.d (ev_abs (ev_int (ev_var rfl)))
    refine s_retN (Ex.refl H) (en_lst (ead_cons (EvN.d (K := K) lc) (ead_cons (Ev.d ev_c) (ead_cons (Ev.d ev_c) (ead_cons (Ev.d ev_c) ead_nil)))) (by show 4 ≤ 100000; decide)) fun p vs G2 H2 g hp gp h2 ra => ?_
    cases ra with
    | cons h1 t1 =>
      obtain ⟨x, y, z, rfl, hx, hy, hz⟩ := ra3 t1
      obtain rfl : x = V.int 0 := hx
      obtain rfl : y = V.int 0 := hy
      obtain rfl : z = V.int 0 := hz
      obtain ⟨c, ws, rfl, hc, rc⟩ := h1
      rw [show (cutR ns none (some 63)).map (fun i => Mu.rI (if i < 0 then -i else i)) = ((cutR ns none (some 63)).map (fun i => if i < 0 then -i else i)).map Mu.rI by rw [List.map_map]; rfl] at rc
      have ew := ra_ints_eq rc
      subst ew
      refine k p G2 H2 g.g g.i hp gp ⟨c, _, 0, 0, 0, h2, hc, fun z hz => ?_, by omega, by omega, by omega, by omega⟩
      obtain ⟨i, _, rfl⟩ := List.mem_map.mp hz
      split <;> omega
theorem sc__law_take : FnScope ["_law_box_here", "_law_many", "_law_digit", "_law_cell"] ["_law_box_here", "_law_many"] (defScope s__law_take) := ⟨rfl, rfl, rfl, by decide +kernel, rfl, by decide +kernel, by decide +kernel⟩
theorem b__law_take (T : Tx K mg) : Binds K T.fd__law_take ["_law_box_here", "_law_many"] [] := T.F__law_take.bindsN fun _ _ _ _ _ _ us hl => match us, hl with | [_, _], _ => rfl
theorem ok__law_take (T : Tx K mg) : FnOk P w K mg base CX0 1 T.f__law_take T.fd__law_take ["_law_box_here", "_law_many"] (spT K) := by
  refine T.F__law_take.ok sc__law_take (fun vs H Q E h => ?_) (fun cdv A outer s H vs Q E hr h => ?_)
  · obtain ⟨G, b, m, rfl, _⟩ := h
    rfl
  · obtain ⟨G, b, m, rfl, e, gb, hbox, h0, h1, k⟩ := h
    obtain ⟨c, cells, i, x, y, hb, hc, hcp, hi, hx, hy, hy2⟩ := hbox.ex
    refine ⟨_, PSs.nox (pss_cons (ps_if (pt_cmpR op_gt (pe_ix (ix_listK K) (pv 0) pe_int (fun _ _ => rfl)) pe_int (nomark _)) (pss_cons (ps_set (i := 2) sc__law_take.nd rfl (Or.inl rfl) (pe_op op_mod (pe_callTy call_int1 (by rfl) T.m_int (by decide +kernel) (pa_cons (pe_ix (ix_listK K) (pv 0) pe_int (fun _ _ => rfl)) pa_nil)) (pv 1)))
      (pss_cons (ps_asg (pe_op op_fdiv (pe_ix (ix_listK K) (pv 0) pe_int (fun _ _ => rfl)) (pv 1)) (pg_sub (pv 0) pe_int set_list))
      (pss_one (ps_ret (pv 2))))) pss_nil)
      (pss_cons (ps_set (i := 3) sc__law_take.nd rfl (Or.inl rfl) pe_int)
      (pss_cut (ps_if (pt_cmpR op_lt (pe_ix (ix_listK K) (pv 0) pe_int (fun _ _ => rfl)) (pe_callB (call_lenK K) (by rfl) T.m_len PySem.boot_len (pa_cons (pe_ix (ix_listK K) (pv 0) pe_int (fun _ _ => rfl)) pa_nil)) (nomark _)) (pss_cons (ps_set (i := 3) sc__law_take.nd rfl (Or.inl rfl) (pe_ix (ix_listK K) (pe_ix (ix_listK K) (pv 0) pe_int (fun _ _ => rfl)) (pe_ix (ix_listK K) (pv 0) pe_int (fun _ _ => rfl)) (fun _ _ => rfl)))
      (pss_one (ps_asg (pe_op op_add (pe_ix (ix_listK K) (pv 0) pe_int (fun _ _ => rfl)) pe_int) (pg_sub (pv 0) pe_int set_list)))) pss_nil)
      (pss_cons (ps_if (pt_cmpR op_ge (pv 3) (pe_op op_pow pe_int pe_int) (nomark _)) (pss_cons (ps_asg (pe_op op_fdiv (pv 3) (pv 1)) (pg_sub (pv 0) pe_int set_list))
      (pss_one (ps_ret (pe_op op_mod (pe_callTy call_int1 (by rfl) T.m_int (by decide +kernel) (pa_cons (pv 3) pa_nil)) (pv 1))))) pss_nil)
      (pss_cons (ps_asg (pe_op op_mod (pe_callTy call_int1 (by rfl) T.m_int (by decide +kernel) (pa_cons (pe_op op_add (pe_op op_mul (pe_ix (ix_listK K) (pv 0) pe_int (fun _ _ => rfl)) pe_int) (pv 3)) pa_nil)) pe_int) (pg_sub (pv 0) pe_int set_list))
      (pss_one (ps_ret (pe_op op_mod (pe_callTy call_int1 (by rfl) T.m_int (by decide +kernel) (pa_cons (pe_op op_fdiv (pe_op op_mod (pe_callTy call_int1 (by rfl) T.m_int (by decide +kernel) (pa_cons (pe_op op_mul (pe_ix (ix_listK K) (pv 0) pe_int (fun _ _ => rfl)) pe_int) pa_nil)) pe_int) pe_int) pa_nil)) (pv 1))))))))), ?_⟩
    have fin : ∀ (i' x' y' : Int) (H' : Hp) (d : Int), H' b = some (.lst [.ref c, .int i', .int x', .int y']) → 0 ≤ i' → 0 ≤ x' → 0 ≤ y' → y' < 2147483647 → (∀ a o, H a = some o → a ≠ b → H' a = some o) → 0 ≤ d → d < (m : Int) → Q (.int d) H' := by
      intro i' x' y' H' d h1 h2 h3 h4 h5 h6 h7 h8
      have z := k d.toNat H' (by omega) h6 fun G' hb' => by
        obtain ⟨c2, cells2, i2, x2, y2, b1, b2, b3, _⟩ := hb'.ex
        rw [hb] at b1
        injection b1 with b1
        injection b1 with b1
        injection b1 with b1 _
        injection b1 with b1
        subst b1
        exact ⟨c, cells2, i', x', y', h1, b2, b3, h2, h3, h4, h5⟩
      rwa [Int.toNat_of_nonneg h7] at z
    have mp : (0 : Int) < (m : Int) := by omega
    have md : CDiv x (m : Int) := ⟨mp, by omega⟩
    -- if box[2] > 0
    refine sq (s_ifE (Ex.refl H) (et_cmp (ev_op (ev_var rfl) ev_c (rv_ixL (sq_of hb) rfl)) ev_c) (fun hb1 H1 e1 => ?_) (fun hb1 H1 e1 => ?_))
    · refine sq (Mu.s_set e1 (ev_op (ev_int (ev_op (ev_var rfl) ev_c (rv_ixL (sq_of hb) rfl))) (ev_var rfl) (rv_I mp)) fun H2 e2 => ?_)
      have hb2 := e2 _ _ (e1 _ _ hb)
      refine sq (s_setL (j := 2) hb2 (ev_op (ev_op (ev_var rfl) ev_c (rv_ixL (sq_of hb2) rfl)) (ev_var rfl) (rv_I md)) (ev_var rfl) ev_c (by show 2 < 4; decide) fun H3 e3 => ?_)
      refine s_retE (Ex.refl _) (ev_var rfl) fun H4 e4 => ?_
      refine fin i (x / (m : Int)) y H4 _ (e4 _ _ upd_same) hi (Int.ediv_nonneg hx (by omega)) hy hy2 (fun a o z n => e4 _ _ (by rw [upd_ne n]; exact e3 _ _ (e2 _ _ (e1 _ _ z)))) (Int.emod_nonneg _ (by omega)) (Int.emod_lt_of_pos _ mp)
    -- cell = 0
    refine nxt ?_
    dsimp only
    refine sq (Mu.s_set e1 ev_c fun H2 e2 => ?_)
    have hb2 := e2 _ _ (e1 _ _ hb)
    have eG2 : Ex G H2 := e.trans (e1.trans e2)
    have hx0 : x ≤ 0 := by
      have q := of_decide_eq_false hb1
      omega
    have hcl : EvD (tOp (rIxL K) (tVar 0) (tC (.int 0))) [some (V.ref b), some (V.int (m : Int)), none, some (V.int 0)] (upd G b (.lst [.ref c, .int i, .int x, .int y])) (rL K (cells.map Mu.rI)) := fun H' e' Q' q' => by
      refine ⟨.ref b, rfl, b, _, 0, .ref c, rfl, rfl, sq_of (e' _ _ upd_same), rfl, q' (.ref c) _ H' (Gr.refl e') ⟨c, _, rfl, (Ex.new gb) _ _ hc, ra_ints⟩⟩
    have eB : Ex (upd G b (.lst [.ref c, .int i, .int x, .int y])) H2 := ex_add eG2 hb2
    -- if box[1] < len(box[0])
    refine ⟨fun σ' H' => ∃ i' cell : Int, σ' = [some (V.ref b), some (V.int (m : Int)), none, some (V.int cell)] ∧ H' b = some (.lst [.ref c, .int i', .int x, .int y]) ∧ 0 ≤ i' ∧ 0 ≤ cell ∧ (∀ a o, H a = some o → a ≠ b → H' a = some o), s_ifE eB (et_cmp (ev_op (ev_var rfl) ev_c (rv_ixL (sq_of upd_same) rfl)) (ev_lenL hcl (List.length_map _))) (fun hb3 H3 e3 => ?_) (fun hb3 H3 e3 => ?_), ?_⟩
    · have hlt : i < (cells.length : Int) := of_decide_eq_true hb3
      have hil : i.toNat < cells.length := by omega
      have ei : ((i.toNat : Nat) : Int) = i := Int.toNat_of_nonneg hi
      have hget : (cells.map Mu.rI)[i.toNat]? = some (Mu.rI cells[i.toNat]) := by rw [List.getElem?_map, List.getElem?_eq_getElem hil]; rfl
      refine sq (Mu.s_set (eB.trans e3) (EvD.ev (ed_ixL hcl (by rw [ei]; exact ev_op (ev_var rfl) ev_c (rv_ixL (sq_of upd_same) rfl)) hget)) fun H4 e4 => ?_)
      have hb4 := e4 _ _ (e3 _ _ hb2)
      refine s_setL (j := 1) hb4 (ev_op (ev_op (ev_var rfl) ev_c (rv_ixL (sq_of hb4) rfl)) ev_c rv_I0) (ev_var rfl) ev_c (by show 1 < 4; decide) fun H5 e5 => ?_
      exact ⟨i + 1, cells[i.toNat], rfl, upd_same, by omega, hcp _ (List.getElem_mem hil), fun a o z n => by rw [upd_ne n]; exact e5 _ _ (e4 _ _ (e3 _ _ (e2 _ _ (e1 _ _ z))))⟩
    · exact nxt ⟨i, 0, rfl, e3 _ _ hb2, hi, by omega, fun a o z n => e3 _ _ (e2 _ _ (e1 _ _ z))⟩
    · rintro σ' H3 ⟨i', cell, rfl, hb3, hi3, hcell, keep⟩
      refine sq (s_ifE (Ex.refl H3) (et_cmp (ev_var rfl) (ev_op ev_c ev_c (rv_I ⟨by decide, by decide, by decide⟩))) (fun hb4 H4 e4 => ?_) (fun hb4 H4 e4 => ?_))
      · have hb4' := e4 _ _ hb3
        refine sq (s_setL (j := 2) hb4' (ev_op (ev_var rfl) (ev_var rfl) (rv_I ⟨mp, by omega⟩)) (ev_var rfl) ev_c (by show 2 < 4; decide) fun H5 e5 => ?_)
        dsimp only
        refine s_retE (Ex.refl _) (ev_op (ev_int (ev_var rfl)) (ev_var rfl) (rv_I mp)) fun H6 e6 => ?_
        exact fin i' (cell / (m : Int)) y H6 _ (e6 _ _ upd_same) hi3 (Int.ediv_nonneg hcell (by omega)) hy hy2 (fun a o z n => e6 _ _ (by rw [upd_ne n]; exact e5 _ _ (e4 _ _ (keep a o z n)))) (Int.emod_nonneg _ (by omega)) (Int.emod_lt_of_pos _ mp)
      · have hb4' := e4 _ _ hb3
        have hc18 : cell < 10 ^ 18 := by
          have q := of_decide_eq_false hb4
          have q2 : ¬ ((10 : Int) ^ (18 : Int).toNat ≤ cell) := q
          have q3 : (10 : Int) ^ (18 : Int).toNat = 10 ^ 18 := rfl
          rw [q3] at q2
          omega
        refine nxt ?_
        dsimp only
        refine sq (s_setL (j := 3) hb4' (ev_op (ev_int (ev_op (ev_op (ev_op (ev_var rfl) ev_c (rv_ixL (sq_of hb4') rfl)) ev_c (rv_I (Or.inl ⟨by omega, by omega⟩))) (ev_var rfl) rv_I0)) ev_c (rv_I (by decide))) (ev_var rfl) ev_c (by show 3 < 4; decide) fun H5 e5 => ?_)
        have ny0 : (0 : Int) ≤ (y * 48271 + cell) % 2147483647 := Int.emod_nonneg _ (by decide)
        have ny1 : (y * 48271 + cell) % 2147483647 < 2147483647 := Int.emod_lt_of_pos _ (by decide)
        have hb6 : (upd H5 b (.lst ([V.ref c, .int i', .int x, .int y].set 3 (.int ((y * 48271 + cell) % 2147483647))))) b = some (.lst [.ref c, .int i', .int x, .int ((y * 48271 + cell) % 2147483647)]) := upd_same
        dsimp only
        refine s_retE (Ex.refl _) (ev_op (ev_int (ev_op (ev_op (ev_int (ev_op (ev_op (ev_var rfl) ev_c (rv_ixL (sq_of hb6) rfl)) ev_c (rv_I (Or.inl ⟨by omega, by omega⟩)))) ev_c (rv_I (by decide))) ev_c (rv_I ⟨by decide, by decide⟩))) (ev_var rfl) (rv_I mp)) fun H6 e6 => ?_
        exact fin i' x _ H6 _ (e6 _ _ hb6) hi3 hx ny0 ny1 (fun a o z n => e6 _ _ (by rw [upd_ne n]; exact e5 _ _ (e4 _ _ (keep a o z n)))) (Int.emod_nonneg _ (by omega)) (Int.emod_lt_of_pos _ mp)
local macro_rules | `(tactic| wtm_at "c") => `(tactic| refine c_take 0 (by assumption) (by wtm_at "s") (by wtm_at "s") ?_)
local macro_rules | `(tactic| wtm_at "c") => `(tactic| refine c_take 0 rfl (by wtm_at "s") (by wtm_at "s") ?_)
local macro_rules | `(tactic| wtm_at "c") => `(tactic| refine c_take 1 rfl (by wtm_at "s") (by wtm_at "s") ?_)
theorem sc__law_letters : FnScope ["_law_box_here", "_law_many", "_law_pool", "_law_found", "_law_k", "_law_at"] ["_law_box_here", "_law_many"] (defScope s__law_letters) := ⟨rfl, rfl, rfl, by decide +kernel, rfl, by decide +kernel, by decide +kernel⟩
theorem b__law_letters (T : Tx K mg) : Binds K T.fd__law_letters ["_law_box_here", "_law_many"] [] := T.F__law_letters.bindsN fun _ _ _ _ _ _ us hl => match us, hl with | [_, _], _ => rfl
abbrev ALPHA : Str := "abcdefghijklmnopqrstuvwxyz"
def alphaL : List Nat := (List.range 26).map fun i => i + 97
theorem alpha_cps : ALPHA.cps.toList = alphaL := by decide +kernel

theorem perm_pick {f l : List Nat} {i c : Nat} (h : l[i]? = some c) : ((f ++ [c]) ++ (l.take i ++ l.drop (i + 1))).Perm (f ++ l) := by
  rw [List.append_assoc]
  refine List.Perm.append_left f ?_
  have hi : i < l.length := (List.getElem?_eq_some_iff.mp h).1
  have hc : l[i] = c := (List.getElem?_eq_some_iff.mp h).2
  have e : l = l.take i ++ c :: l.drop (i + 1) := by
    rw [← hc, List.getElem_cons_drop hi, List.take_append_drop]
  conv => rhs; rw [e]
  exact (List.perm_middle (a := c) (l₁ := l.take i) (l₂ := l.drop (i + 1))).symm

def R_law_letters (K : PySem.W.Frag) : List V → Hp → (List Rp → Prop) → Prop := fun vs G PP => ∃ (m : Nat), RA G vs [nI m] ∧ (m ≤ 20) ∧ PP = fun rs => ∃ (l : List Nat), (l.length = m ∧ (∀ c ∈ l, c ∈ alphaL) ∧ l.Nodup) ∧ rs = l.map rC
theorem ok__law_letters (T : Tx K mg) : FnOk P w K mg base CX0 2 T.f__law_letters T.fd__law_letters ["_law_box_here", "_law_many"] (spBN K (R_law_letters K)) := by
  refine T.F__law_letters.ok sc__law_letters (fun vs H Q E h => ?_) (fun cdv A outer s H vs Q E hr h => ?_)
  · obtain ⟨G, b, ws, PP, rfl, _, _, _, ⟨m, ra, _⟩, _⟩ := h
    show ws.length + 1 = _
    rw [ra.len]; rfl
  · obtain ⟨G, b, ws, PP, rfl, e, gb, hbox, ⟨m, ra, q0, rfl⟩, k⟩ := h
    refine ⟨_, PSs.nox (pss_cons (ps_set (i := 2) sc__law_letters.nd rfl (Or.inl rfl) pe_str)
      (pss_cons (ps_set (i := 3) sc__law_letters.nd rfl (Or.inl rfl) (pe_lst pa_nil))
      (pss_cons (ps_for PassesOwn.never rfl (pi_range1 (by rfl) T.m_range (pa_cons (pv 1) pa_nil)) (pg_name (i := 4) sc__law_letters.nd rfl (Or.inl rfl)) (pss_cons (ps_set (i := 5) sc__law_letters.nd rfl (Or.inl rfl) (pe_call (ok__law_take T) (hr.mono (by decide)) (by rfl) T.g__law_take T.F__law_take.kp (b__law_take T) .nil pass0 (pa_cons (pv 0) (pa_cons (pe_callB call_lenT (by rfl) T.m_len PySem.boot_len (pa_cons (pv 2) pa_nil)) pa_nil))))
      (pss_cons (ps_expr (pe_bm PySem.F.plainAttrs_list PySem.F.slot_list_append PySem.F.type_list_append mt_append (pv 3) (pa_cons (pe_ix ix_str (pv 2) (pv 5) (fun _ _ => rfl)) pa_nil)))
      (pss_one (ps_set (i := 2) sc__law_letters.nd rfl (Or.inl rfl) (pe_op op_addT (pe_slice sl_str (pv 2) po_none (po_some (pv 5))) (pe_slice sl_str (pv 2) (po_some (pe_op op_add (pv 5) pe_int)) po_none)))))))
      (pss_one (ps_ret (pv 3)))))), ?_⟩
    refine run_BN (W := fun _ _ _ _ => False) (K := K) (b := b) (P := fun rs => ∃ (l : List Nat), (l.length = m ∧ (∀ c ∈ l, c ∈ alphaL) ∧ l.Nodup) ∧ rs = l.map rC) (Γ := [some (rV (.ref b)), some (nI m), none, none, none, none]) ?_ e gb hbox (En.start (k := 4) _ (rs := rV (.ref b) :: [nI m]) (.cons rfl ra) (by show _ - (ws.length + 1) = _; rw [ra.len]; rfl)) k
    clear ra e k gb hbox
    refine w_seq (ws_set (e_c ?_))
    try dsimp only [List.set]
    rw [show rV (.str ALPHA) = rSt alphaL from congrArg (fun s => rV (.str s)) ((sL_of ALPHA).symm.trans (congrArg sL alpha_cps))]
    refine w_seq (ws_set (e_lstN (a_nil ⟨by decide, fun p => ?_⟩)))
    try dsimp only [List.set, List.cons_append, List.nil_append]
    refine w_seq (w_forR m (fun i (z : List Nat × List Nat) => z.1.length = 26 - i ∧ z.2.length = i ∧ (z.2 ++ z.1).Nodup ∧ ∀ c ∈ z.2 ++ z.1, c ∈ alphaL) (fun _ z => [some (rV (.ref b)), some (nI m), some (rSt z.1), some (rV (.ref p)), none, none]) (fun _ z => [boxR K b, lstR p (z.2.map rC)]) (by wtm_at "x") (by omega) (alphaL, []) ⟨by decide, rfl, by decide, fun c hc => hc⟩ (by wtm_at "sub") rfl (fun i z hi hz => ?_) (fun z hz => ?_))
    · obtain ⟨z1, z2, z3, z4⟩ := hz
      dsimp only [List.set]
      have hl0 : 0 < z.1.length := by omega
      refine w_seq (ws_set ?_)
      wtm_at "e"
      intro at_ hat
      try dsimp only [List.set]
      obtain ⟨c, hc⟩ : ∃ c, z.1[at_]? = some c := ⟨_, List.getElem?_eq_getElem hat⟩
      refine w_seq (ws_do ?_)
      wtm_at "e"
      try dsimp only [List.set]
      refine ws_set ?_
      wtm_at "e"
      refine ⟨(z.1.take at_ ++ z.1.drop (at_ + 1), z.2 ++ [c]), ⟨?_, ?_, ?_, ?_⟩, by wtm_at "sub", ?_⟩
      · show (z.1.take at_ ++ z.1.drop (at_ + 1)).length = _
        rw [List.length_append, List.length_take, List.length_drop]; omega
      · show (z.2 ++ [c]).length = _
        rw [List.length_append, z2]; rfl
      · exact (perm_pick hc).nodup_iff.mpr z3
      · intro x hx
        exact z4 x ((perm_pick hc).mem_iff.mp hx)
      · show _ = [boxR K b, lstR p ((z.2 ++ [c]).map rC)]
        rw [List.map_append]; rfl
    · obtain ⟨z1, z2, z3, z4⟩ := hz
      refine ws_ret (e_v rfl ?_)
      exact ⟨_, p, ⟨z.2, ⟨z2, fun c hc => z4 c (List.mem_append_left _ hc), (List.nodup_append.mp z3).1⟩, rfl⟩, rfl, rfl⟩
theorem c_law_letters (T : Tx K mg) {M : List Re} {κ : KV} {b : Addr} {m : Nat} (hk : M[0]? = some (boxR K b)) (q0 : m ≤ 20) (k : ∀ (l : List Nat), (l.length = m ∧ (∀ c ∈ l, c ∈ alphaL) ∧ l.Nodup) → κ (rL K (l.map rC)) M) : CM (spBN K (R_law_letters K)) (rV (.ref b) :: [nI m]) M κ := c_BNf K 0 hk (fun vs G ra => ⟨m, ra, q0, rfl⟩) fun ss h => by
  obtain ⟨l, hc, rfl⟩ := h
  exact k l hc
theorem o_law_letters (T : Tx K mg) {M : List Re} {κ : KV} {b : Addr} {m : Nat} (hk : M[0]? = some (boxR K b)) (q0 : m ≤ 20) (k : ∀ (l : List Nat), (l.length = m ∧ (∀ c ∈ l, c ∈ alphaL) ∧ l.Nodup) → ∀ p, κ (rV (.ref p)) (M ++ [lstR p (l.map rC)])) : CM (spBN K (R_law_letters K)) (rV (.ref b) :: [nI m]) M κ := c_BN 0 hk (fun vs G ra => ⟨m, ra, q0, rfl⟩) fun ss h p => by
  obtain ⟨l, hc, rfl⟩ := h
  exact k l hc p
local macro_rules | `(tactic| wtm_at "co") => `(tactic| refine o_law_letters (by assumption) rfl (by wtm_at "s") ?_)
local macro_rules | `(tactic| wtm_at "c") => `(tactic| refine c_law_letters (by assumption) rfl (by wtm_at "s") ?_)
theorem sc__law_subsets : FnScope ["_law_n", "_law_found", "_law_word", "_law_words"] ["_law_n"] (defScope s__law_subsets) := ⟨rfl, rfl, rfl, by decide +kernel, rfl, by decide +kernel, by decide +kernel⟩
theorem b__law_subsets (T : Tx K mg) : Binds K T.fd__law_subsets ["_law_n"] [] := T.F__law_subsets.bindsN fun _ _ _ _ _ _ us hl => match us, hl with | [_], _ => rfl
def subL : Nat → List (List Nat)
  | 0 => [[]]
  | n + 1 => subL n ++ (subL n).map (· ++ [n])
theorem sub_len2 : ∀ n, (subL n).length = 2 ^ n
  | 0 => rfl
  | n + 1 => by
    rw [subL, List.length_append, List.length_map, sub_len2 n, Nat.pow_succ]; omega
theorem mem_sub : ∀ {n : Nat} {p : List Nat}, p ∈ subL n ↔ p.Pairwise (· < ·) ∧ ∀ x ∈ p, x < n
  | 0, p => by
    rw [subL, List.mem_singleton]
    constructor
    · rintro rfl
      exact ⟨List.Pairwise.nil, fun x h => nomatch h⟩
    · rintro ⟨_, h⟩
      exact List.eq_nil_iff_forall_not_mem.mpr fun x hx => absurd (h x hx) (by omega)
  | n + 1, p => by
    rw [subL, List.mem_append]
    constructor
    · rintro (h | h)
      · obtain ⟨h1, h2⟩ := mem_sub.mp h
        exact ⟨h1, fun x hx => by have := h2 x hx; omega⟩
      · obtain ⟨q, hq, rfl⟩ := List.mem_map.mp h
        obtain ⟨h1, h2⟩ := mem_sub.mp hq
        refine ⟨List.pairwise_append.mpr ⟨h1, List.pairwise_singleton _ _, fun a ha b hb => by rw [List.mem_singleton.mp hb]; exact h2 a ha⟩, fun x hx => ?_⟩
        rcases List.mem_append.mp hx with z | z
        · have := h2 x z; omega
        · rw [List.mem_singleton.mp z]; omega
    · rintro ⟨h1, h2⟩
      rcases List.eq_nil_or_concat p with rfl | ⟨q, x, hq⟩
      · exact .inl (mem_sub.mpr ⟨List.Pairwise.nil, fun x h => nomatch h⟩)
      · rw [List.concat_eq_append] at hq
        subst hq
        obtain ⟨g1, _, g2⟩ := List.pairwise_append.mp h1
        have hqx : ∀ y ∈ q, y < x := fun y hy => g2 y hy x (List.mem_singleton.mpr rfl)
        have hx := h2 x (List.mem_append_right _ (List.mem_singleton.mpr rfl))
        by_cases z : x = n
        · rw [z]
          exact .inr (List.mem_map.mpr ⟨q, mem_sub.mpr ⟨g1, fun y hy => by have := hqx y hy; omega⟩, rfl⟩)
        · exact .inl (mem_sub.mpr ⟨h1, fun y hy => by
            rcases List.mem_append.mp hy with w | w
            · have := hqx y w; omega
            · rw [List.mem_singleton.mp w]; omega⟩)

theorem sub_le : ∀ {n : Nat} (p : List Nat), p ∈ subL n → p.length ≤ n
  | 0, p, h => by rw [List.mem_singleton.mp h]; exact Nat.zero_le _
  | n + 1, p, h => by
    rcases List.mem_append.mp h with z | z
    · have := sub_le p z; omega
    · obtain ⟨q, hq, rfl⟩ := List.mem_map.mp z
      have := sub_le q hq
      rw [List.length_append]; show _ + 1 ≤ _; omega

def R_law_subsets (T : Tx K mg) : List V → Hp → Rp → Prop := fun vs G r => ∃ (n : Nat), RA G vs [nI n] ∧ (n ≤ 8) ∧ r = rL K ((subL n).map (rLn K))
theorem ok__law_subsets (T : Tx K mg) : FnOk P w K mg base CX0 1 T.f__law_subsets T.fd__law_subsets ["_law_n"] (spD (R_law_subsets T)) := by
  refine T.F__law_subsets.ok sc__law_subsets (fun vs H Q E h => ?_) (fun cdv A outer s H vs Q E hr h => ?_)
  · obtain ⟨G, r, _, ⟨n, ra, _⟩, _⟩ := h
    exact ra.len
  · obtain ⟨G, r, e, ⟨n, ra, q0, rfl⟩, k⟩ := h
    refine ⟨_, PSs.nox (pss_cons (ps_set (i := 1) sc__law_subsets.nd rfl (Or.inl rfl) (pe_lst (pa_cons (pe_lst pa_nil) pa_nil)))
      (pss_cons (ps_for PassesOwn.never rfl (pi_range1 (by rfl) T.m_range (pa_cons (pv 0) pa_nil)) (pg_name (i := 2) sc__law_subsets.nd rfl (Or.inr rfl)) (pss_one (ps_set (i := 1) sc__law_subsets.nd rfl (Or.inl rfl) (pe_op op_cat (pv 1) (pe_lc (own := [("_law_words", 3)]) (by rfl) sc__law_subsets.nd (pi_listK K (pv 1)) (blkOk_by (N := ["_law_n", "_law_found", "_law_word", "_law_words"]) (sc := defScope s__law_subsets) (by decide +kernel)) (fun _ _ _ _ _ => (pg_name (i := 3) sc__law_subsets.nd rfl (Or.inl rfl))) (fun _ _ _ _ _ => pts_nil) (fun _ _ _ _ _ => (pe_op op_cat (pv 3) (pe_lst (pa_cons (pv 2) pa_nil)))))))))
      (pss_one (ps_ret (pv 1))))), ?_⟩
    refine run_D (W := fun _ _ _ _ => False) (Γ := [some (nI n), none, none, none]) ?_ e (En.start (k := 3) _ (rs := [nI n]) ra (by rw [ra.len]; rfl)) k
    clear ra e k
    refine w_seq (ws_set (e_x (r := rL K ((subL 0).map (rLn K))) (EvNX.d (K := K) (xn_lst (xa_cons (EvNX.d (K := K) (xn_lst xa_nil (by show 0 ≤ 100000; decide))) xa_nil) (by show 1 ≤ 100000; decide))) ?_))
    try dsimp only [List.set]
    refine w_seq (w_forR n (fun _ (_ : Unit) => True) (fun i _ => [some (nI n), some (rL K ((subL i).map (rLn K))), none, none]) (fun _ _ => []) (x_v rfl) (by omega) () trivial (by wtm_at "sub") rfl (fun i _ hi _ => ?_) (fun _ _ => ?_))
    · dsimp only [List.set]
      have hl : (subL i).length ≤ 256 := by
        rw [sub_len2]
        exact (Nat.pow_le_pow_right (by decide) (by omega) : 2 ^ i ≤ 2 ^ 8)
      refine ws_set (e_x (EvNX.d (K := K) (xn_cat (K := K) (x_v rfl) (EvNX.d (K := K) (xn_lcL0 (K := K) (subL i) (rLn K) (fun p => rLn K (p ++ [i])) (x_v rfl) (by omega) (fun p hp => x_is (EvNX.d (K := K) (xn_cat (K := K) (x_v rfl) (EvNX.d (K := K) (xn_lst (xa_cons (x_v rfl) xa_nil) (by show 1 ≤ 100000; decide))) ?_)) ?_) (by simp))) (by rw [List.length_map, List.length_map]; omega))) ?_)
      · have := sub_le p hp
        rw [List.length_map]; show _ + 1 ≤ _; omega
      · show rL K _ = rL K _
        rw [List.map_append]
        rfl
      · refine ⟨(), trivial, ?_, rfl⟩
        dsimp only [List.set]
        rw [subL, List.map_append, List.map_map]
        wtm_at "sub"
    · try dsimp only
      exact ws_ret (e_v rfl rfl)
theorem c_law_subsets (T : Tx K mg) {M : List Re} {κ : KV} {n : Nat} (q0 : n ≤ 8) (k : κ (rL K ((subL n).map (rLn K))) M) : CM (spD (R_law_subsets T)) [nI n] M κ := cm (fun vs G ra => SpD.of ⟨n, ra, q0, rfl⟩) k
local macro_rules | `(tactic| wtm_at "c") => `(tactic| refine c_law_subsets _ (by wtm_at "s") ?_)
theorem sc__law_left : FnScope ["_law_row", "_law_lost", "_law_found", "_law_places", "_law_left_here", "_law_at"] ["_law_row", "_law_lost"] (defScope s__law_left) := ⟨rfl, rfl, rfl, by decide +kernel, rfl, by decide +kernel, by decide +kernel⟩
theorem b__law_left (T : Tx K mg) : Binds K T.fd__law_left ["_law_row", "_law_lost"] [] := T.F__law_left.bindsN fun _ _ _ _ _ _ us hl => match us, hl with | [_, _], _ => rfl
theorem x_strW {Γ : Mu.Ctx} {ta : TE} {w : List Nat} (h : EvX Γ ta (rSt w)) : EvX Γ (tCB (fun xs H Q => ∃ a, xs = [V.str a] ∧ Q (V.str a) H) (tCons ta tNil)) (rSt w) := fun σ G en H e Q q => h σ G en H e _ fun v G1 H1 g1 hv => by
  obtain rfl : v = V.str (sL w) := hv
  exact ⟨_, rfl, q _ G1 H1 g1 rfl⟩

def lfR (row places : List Nat) : List Nat := ((List.range row.length).filter fun a => !decide (a ∈ places)).map fun a => row.getD a 0
theorem lf_sub {row places : List Nat} : (lfR row places).Sublist row := by
  unfold lfR
  have h : ((List.range row.length).map fun a => row.getD a 0) = row := by
    refine List.ext_getElem (by simp) fun i h1 h2 => ?_
    rw [List.getElem_map, List.getElem_range, List.getD_eq_getElem?_getD, List.getElem?_eq_getElem h2]
    rfl
  conv => rhs; rw [← h]
  exact List.Sublist.map _ List.filter_sublist
theorem lf_len {row places : List Nat} (h : places ∈ subL row.length) : (lfR row places).length + places.length = row.length := by
  obtain ⟨h1, h2⟩ := mem_sub.mp h
  unfold lfR
  rw [List.length_map]
  have e : (List.range row.length).length = ((List.range row.length).filter fun a => !decide (a ∈ places)).length + ((List.range row.length).filter fun a => decide (a ∈ places)).length := by
    generalize List.range row.length = l
    induction l with
    | nil => rfl
    | cons a l ih =>
      rw [List.filter_cons, List.filter_cons]
      by_cases z : a ∈ places
      · simp [z] at ih ⊢; omega
      · simp [z] at ih ⊢; omega
  have e2 : ((List.range row.length).filter fun a => decide (a ∈ places)) = places := by
    refine List.Perm.eq_of_pairwise (le := fun a b : Nat => a < b) (fun a b _ _ h1 h2 => absurd h1 (by omega)) (List.pairwise_lt_range.filter _) h1 ?_
    refine (List.perm_ext_iff_of_nodup ((List.nodup_range).filter _) (h1.imp fun h => by omega)).mpr fun a => ?_
    rw [List.mem_filter, List.mem_range, decide_eq_true_iff]
    exact ⟨fun z => z.2, fun z => ⟨h2 a z, z⟩⟩
  rw [e2, List.length_range] at e
  omega
theorem lf_all {row s : List Nat} (h : s.Sublist row) : ∃ places ∈ subL row.length, lfR row places = s := by
  obtain ⟨is, e, hp⟩ := List.sublist_eq_map_getElem h
  have hv : (is.map fun i : Fin row.length => i.val).Pairwise (· < ·) := by
    rw [List.pairwise_map]
    exact hp.imp fun h => h
  refine ⟨(List.range row.length).filter fun a => !decide (a ∈ is.map fun i : Fin row.length => i.val), mem_sub.mpr ⟨List.pairwise_lt_range.filter _, fun x hx => List.mem_range.mp (List.mem_filter.mp hx).1⟩, ?_⟩
  have e2 : ((List.range row.length).filter fun a => !decide (a ∈ (List.range row.length).filter fun a => !decide (a ∈ is.map fun i : Fin row.length => i.val))) = is.map fun i : Fin row.length => i.val := by
    refine List.Perm.eq_of_pairwise (le := fun a b : Nat => a < b) (fun a b _ _ h1 h2 => absurd h1 (by omega)) (List.pairwise_lt_range.filter _) hv ?_
    refine (List.perm_ext_iff_of_nodup ((List.nodup_range).filter _) (hv.imp fun h => by omega)).mpr fun a => ?_
    rw [List.mem_filter, List.mem_range, Bool.not_eq_true', decide_eq_false_iff_not, List.mem_filter, List.mem_range, Bool.not_eq_true', decide_eq_false_iff_not]
    constructor
    · rintro ⟨h1, h2⟩
      exact Classical.byContradiction fun z => h2 ⟨h1, z⟩
    · intro z
      obtain ⟨i, _, rfl⟩ := List.mem_map.mp z
      exact ⟨i.isLt, fun y => y.2 z⟩
  unfold lfR
  rw [e2, e, List.map_map]
  refine List.map_congr_left fun i _ => ?_
  show row.getD i.val 0 = row[i]
  rw [List.getD_eq_getElem?_getD, List.getElem?_eq_getElem i.isLt]
  rfl
structure LfP (row : List Nat) (z : Int) (i : Nat) (F : List (List Nat)) : Prop where
  nd : F.Nodup
  mem : ∀ w, w ∈ F ↔ ∃ p ∈ (subL row.length).take i, ((p.length : Nat) : Int) = z ∧ w = lfR row p
  len : F.length ≤ i
theorem LfP.zero {row : List Nat} {z : Int} : LfP row z 0 [] := ⟨List.nodup_nil, fun w => by simp, Nat.le_refl _⟩
theorem LfP.yes {row p : List Nat} {z : Int} {i : Nat} {F : List (List Nat)} (h : LfP row z i F) (hp : (subL row.length)[i]? = some p) (hl : ((p.length : Nat) : Int) = z) (hn : lfR row p ∉ F) : LfP row z (i + 1) (F ++ [lfR row p]) := ⟨List.nodup_append.mpr ⟨h.nd, by simp, fun a ha b hb e => by rw [List.mem_singleton.mp hb] at e; exact hn (e ▸ ha)⟩, fun w => by
  rw [List.mem_append, List.mem_singleton, h.mem, List.take_add_one, hp]
  constructor
  · rintro (⟨q, h1, h2⟩ | rfl)
    · exact ⟨q, List.mem_append_left _ h1, h2⟩
    · exact ⟨p, List.mem_append_right _ (by simp), hl, rfl⟩
  · rintro ⟨q, h1, h2, h3⟩
    rcases List.mem_append.mp h1 with y | y
    · exact .inl ⟨q, y, h2, h3⟩
    · have : q = p := by simpa using y
      exact .inr (this ▸ h3), by rw [List.length_append]; have := h.len; show _ + 1 ≤ _; omega⟩
theorem LfP.no {row p : List Nat} {z : Int} {i : Nat} {F : List (List Nat)} (h : LfP row z i F) (hp : (subL row.length)[i]? = some p) (hn : ¬ (((p.length : Nat) : Int) = z ∧ lfR row p ∉ F)) : LfP row z (i + 1) F := ⟨h.nd, fun w => by
  rw [h.mem, List.take_add_one, hp]
  constructor
  · rintro ⟨q, h1, h2⟩
    exact ⟨q, List.mem_append_left _ h1, h2⟩
  · rintro ⟨q, h1, h2, h3⟩
    rcases List.mem_append.mp h1 with y | y
    · exact ⟨q, y, h2, h3⟩
    · have e : q = p := by simpa using y
      subst e
      have : lfR row q ∈ F := Classical.byContradiction fun c => hn ⟨h2, c⟩
      rw [h3]
      exact (h.mem _).mp this, by have := h.len; omega⟩
theorem LfP.perm {row : List Nat} {z : Int} {F : List (List Nat)} (h : LfP row z (subL row.length).length F) : (subO row z).Perm F := by
  have key : ∀ w, w ∈ F ↔ 0 ≤ z ∧ w.Sublist row ∧ (w.length : Int) + z = row.length := fun w => by
    rw [h.mem, List.take_length]
    constructor
    · rintro ⟨p, h1, h2, rfl⟩
      have := lf_len h1
      exact ⟨by omega, lf_sub, by omega⟩
    · rintro ⟨h0, h1, h2⟩
      obtain ⟨p, hp, e⟩ := lf_all h1
      have := lf_len hp
      rw [e] at this
      exact ⟨p, hp, by omega, e.symm⟩
  unfold subO
  split
  · rename_i hz
    refine (List.perm_ext_iff_of_nodup ((subF_sorted _ _ _ (by omega)).imp fun {x y} q e => ?_) h.nd).mpr fun w => ?_
    · rw [e] at q; exact List.lt_irrefl _ q
    · rw [mem_subF _ _ _ _ (by omega), key]
      constructor
      · rintro ⟨s, e, h1, h2⟩
        obtain rfl : w = s := e
        exact ⟨hz.1, h2, by omega⟩
      · rintro ⟨h1, h2, h3⟩
        exact ⟨w, rfl, by omega, h2⟩
  · rename_i hz
    have : F = [] := List.eq_nil_iff_forall_not_mem.mpr fun w hw => by
      obtain ⟨h1, h2, h3⟩ := (key w).mp hw
      exact hz ⟨h1, by omega⟩
    rw [this]
theorem subO_sorted {row : List Nat} {z : Int} : (subO row z).Pairwise (· < ·) := by
  unfold subO
  split
  · exact subF_sorted _ _ _ (by omega)
  · exact List.Pairwise.nil
theorem subO_len {row : List Nat} {z : Int} {F : List (List Nat)} (h : LfP row z (subL row.length).length F) (h7 : row.length ≤ 7) : (subO row z).length ≤ 128 := by
  rw [h.perm.length_eq]
  refine Nat.le_trans h.len ?_
  rw [sub_len2]
  exact (Nat.pow_le_pow_right (by decide) h7 : 2 ^ row.length ≤ 2 ^ 7)

def R_law_left (T : Tx K mg) : List V → Hp → Rp → Prop := fun vs G r => ∃ (row : List Nat) (z : Int), RA G vs [rSt row, Mu.rI z] ∧ (row.length ≤ 7) ∧ r = rL K ((subO row z).map rSt)
theorem ok__law_left (T : Tx K mg) : FnOk P w K mg base CX0 2 T.f__law_left T.fd__law_left ["_law_row", "_law_lost"] (spD (R_law_left T)) := by
  refine T.F__law_left.ok sc__law_left (fun vs H Q E h => ?_) (fun cdv A outer s H vs Q E hr h => ?_)
  · obtain ⟨G, r, _, ⟨row, z, ra, _⟩, _⟩ := h
    exact ra.len
  · obtain ⟨G, r, e, ⟨row, z, ra, q0, rfl⟩, k⟩ := h
    refine ⟨_, PSs.nox (pss_cons (ps_set (i := 2) sc__law_left.nd rfl (Or.inl rfl) (pe_lst pa_nil))
      (pss_cons (ps_for PassesOwn.never rfl (pi_listK K (pe_call (ok__law_subsets T) (hr.mono (by decide)) (by rfl) T.g__law_subsets T.F__law_subsets.kp (b__law_subsets T) .nil pass0 (pa_cons (pe_callB call_lenT (by rfl) T.m_len PySem.boot_len (pa_cons (pv 0) pa_nil)) pa_nil))) (pg_name (i := 3) sc__law_left.nd rfl (Or.inr rfl)) (pss_cons (ps_set (i := 4) sc__law_left.nd rfl (Or.inl rfl) (pe_m1 PySem.F.slot_str_join PySem.F.type_str_join (mt_joinK K) pe_str (pe_lc (own := [("_law_at", 5)]) (by rfl) sc__law_left.nd (pi_range1 (by rfl) T.m_range (pa_cons (pe_callB call_lenT (by rfl) T.m_len PySem.boot_len (pa_cons (pv 0) pa_nil)) pa_nil)) (blkOk_by (N := ["_law_row", "_law_lost", "_law_found", "_law_places", "_law_left_here", "_law_at"]) (sc := defScope s__law_left) (by decide +kernel)) (fun _ _ _ _ _ => (pg_name (i := 5) sc__law_left.nd rfl (Or.inl rfl))) (fun _ _ _ _ _ => (pts_one (pt_cmpR (op_notInK K) (pv 5) (pv 3) rfl))) (fun _ _ _ _ _ => (pe_ix ix_str (pv 0) (pv 5) (fun _ _ => rfl))))))
      (pss_one (ps_if (PW.pt (pw_and (pt_cmpR op_eq (pe_callB (call_lenK K) (by rfl) T.m_len PySem.boot_len (pa_cons (pv 3) pa_nil)) (pv 1) (nomark _)) (pw_and1 (pt_cmpR (op_notInK K) (pv 4) (pv 2) rfl)))) (pss_one (ps_expr (pe_bm PySem.F.plainAttrs_list PySem.F.slot_list_append PySem.F.type_list_append mt_append (pv 2) (pa_cons (pv 4) pa_nil)))) pss_nil))))
      (pss_one (ps_ret (pe_callB (cr_sortedSA K) (by rfl) T.m_sorted (by decide +kernel) (pa_cons (pe_lc (own := [("_law_left_here", 4)]) (by rfl) sc__law_left.nd (pi_listK K (pv 2)) (blkOk_by (N := ["_law_row", "_law_lost", "_law_found", "_law_places", "_law_left_here", "_law_at"]) (sc := defScope s__law_left) (by decide +kernel)) (fun _ _ _ _ _ => (pg_name (i := 4) sc__law_left.nd rfl (Or.inl rfl))) (fun _ _ _ _ _ => pts_nil) (fun _ _ _ _ _ => (pe_callTy SkE.call_str_str (by rfl) T.m_str (by decide +kernel) (pa_cons (pv 4) pa_nil)))) pa_nil)))))), ?_⟩
    refine run_D (W := fun _ _ _ _ => False) (Γ := [some (rSt row), some (Mu.rI z), none, none, none, none]) ?_ e (En.start (k := 4) _ (rs := [rSt row, Mu.rI z]) ra (by rw [ra.len]; rfl)) k
    clear ra e k
    have hsl : (subL row.length).length ≤ 128 := by
      rw [sub_len2]
      exact (Nat.pow_le_pow_right (by decide) q0 : 2 ^ row.length ≤ 2 ^ 7)
    refine w_seq (ws_set (e_lstN (a_nil ⟨by show 0 ≤ 100000; decide, fun p => ?_⟩)))
    try dsimp only [List.set, List.cons_append, List.nil_append]
    refine w_seq (w_forL (K := K) (subL row.length) (rLn K) (fun i (F : List (List Nat)) => LfP row z i F) (fun _ _ => [some (rSt row), some (Mu.rI z), some (rV (.ref p)), none, none, none]) (fun _ F => [lstR p (F.map rSt)]) (EvX.by fun W ε => e_call (a_cons (e_x (x_lenTx (x_v rfl) (by omega)) (a_nil (c_law_subsets T (by omega) ⟨rfl, rfl⟩))))) [] LfP.zero (by wtm_at "sub") rfl (fun i F pl hpl hF => ?_) (fun F hF => ?_))
    · dsimp only [List.set]
      have hi := (List.getElem?_eq_some_iff.mp hpl).1
      have hFl := hF.len
      have hpn := sub_le pl (List.mem_of_getElem? hpl)
      refine w_seq (ws_set (e_x (r := rSt (lfR row pl)) (x_joinL (K := K) x_c (x_is (EvNX.d (K := K) (xn_lcR row.length (fun a => !decide (a ∈ pl)) (fun a => rC (row.getD a 0)) (x_lenTx (x_v rfl) (by omega)) (by omega) (fun a ha => t_T (x_niLn (x_v rfl) (x_v rfl))) (fun a ha _ => x_ixS (s := sL row) (x_v rfl) (x_v rfl) (by rw [sL_len]; omega) (by rw [sL_cps, List.getD_eq_getElem?_getD, List.getElem?_eq_getElem ha]; rfl)) (by simp))) (by unfold lfR; rw [List.map_map]; rfl)) (Nat.le_trans (lf_sub (row := row) (places := pl)).length_le (by omega))) ?_))
      try dsimp only [List.set]
      refine ws_if (et_bx (c := decide (((pl.length : Nat) : Int) = z) && !decide (lfR row pl ∈ F)) (fun _ => false) (bx_set (i := 2) bx_refl rfl (bx_lst (K := K) (k := 0) rfl)) ?_ ⟨fun hb => ?_, fun hb => ?_⟩)
      · dsimp only [List.set]
        exact t_and (t_T (x_eqI (x_lenLn (x_v rfl)) (x_v rfl))) fun _ => t_T (x_is (x_inLT true (x_v rfl) (x_v rfl)) (by simp))
      · obtain ⟨h1, h2⟩ := Bool.and_eq_true_iff.mp hb
        have h1 := of_decide_eq_true h1
        have h2 : lfR row pl ∉ F := by simpa using h2
        refine ws_do (e_app 0 rfl (e_v rfl ⟨_, rfl, by rw [List.length_map]; omega, ?_⟩) rfl)
        refine ⟨F ++ [lfR row pl], hF.yes hpl h1 h2, by wtm_at "sub", ?_⟩
        dsimp only [List.set]
        rw [List.map_append]
        rfl
      · refine w_nx ⟨F, hF.no hpl fun hh => ?_, by wtm_at "sub", rfl⟩
        rw [decide_eq_true hh.1, decide_eq_false hh.2] at hb
        exact nomatch hb
    · refine w_frz K 0 2 rfl rfl ?_
      try dsimp only [List.set, List.eraseIdx]
      have hFl := hF.len
      exact ws_ret (e_x (EvNX.d (K := K) (xn_sortW (l := F) (r := subO row z) (EvNX.d (K := K) (xn_lcL0 (K := K) F rSt rSt (x_v rfl) (by omega) (fun w hw => x_strW (x_v rfl)) (by simp))) subO_sorted hF.perm)) rfl)
theorem c_law_left (T : Tx K mg) {M : List Re} {κ : KV} {row : List Nat} {z : Int} (q0 : row.length ≤ 7) (k : κ (rL K ((subO row z).map rSt)) M) : CM (spD (R_law_left T)) [rSt row, Mu.rI z] M κ := cm (fun vs G ra => SpD.of ⟨row, z, ra, q0, rfl⟩) k
local macro_rules | `(tactic| wtm_at "c") => `(tactic| refine c_law_left _ (by wtm_at "s") ?_)
theorem sc_law : FnScope ["_law_script", "_law_box_here", "_law_letters_here", "_law_row", "_law_k", "_law_lost", "_law_due", "_law_turn", "_law_every", "_law_found", "_law_one"] ["_law_script"] (defScope s_law) := ⟨rfl, rfl, rfl, by decide +kernel, rfl, by decide +kernel, by decide +kernel⟩
def sp_law (K : PySem.W.Frag) : Sp := fun vs H Q _ => ∃ (a : Addr) (ns : List Int), vs = [.ref a] ∧ SqL K H a (ns.map V.int) ∧ ns.length ≤ 63 ∧ ∀ H', Q (.bl true) H'
theorem strOk_w56 {w : List Nat} (h : ∀ c ∈ w, c ∈ alphaL) : PyData.strOk (sL w) = true := by
  have h2 : ∀ c ∈ w, c < 200 := fun c hc => (by decide : ∀ x ∈ alphaL, x < 200) c (h c hc)
  unfold PyData.strOk
  simp [sL]
  intro c hc
  have := h2 c hc
  omega
abbrev AW := {w : List Nat // ∀ c ∈ w, c ∈ alphaL}
theorem al_listW : ∀ {l : List (List Nat)}, (∀ w ∈ l, ∀ c ∈ w, c ∈ alphaL) → ∃ l' : List AW, l'.map (·.1) = l
  | [], _ => ⟨[], rfl⟩
  | w :: l, h => by
    obtain ⟨l', e⟩ := al_listW (l := l) fun x hx => h x (List.mem_cons_of_mem _ hx)
    exact ⟨⟨w, h w List.mem_cons_self⟩ :: l', by rw [List.map_cons, e]⟩
theorem dt_w56 {K : PySem.W.Frag} (a : AW) : Dt K 1 (rSt a.1) (.str (sL a.1)) := dt_s (by unfold PyData.canLay0; exact strOk_w56 a.2)
section
variable {Γ : Mu.Ctx} {ta tb : TE} {l : List (List Nat)}
theorem x_eqW (hl : ∀ w ∈ l, ∀ c ∈ w, c ∈ alphaL) (ha : EvX Γ ta (rL K (l.map rSt))) (hb : EvX Γ tb (rL K (l.map rSt))) : EvX Γ (tOp (rEqD K) ta tb) (rB true) := by
  obtain ⟨l', rfl⟩ := al_listW hl
  rw [List.map_map] at ha hb
  exact x_eqS (dt_l (ρ := fun a : AW => rSt a.1) dt_w56 l') (by decide) ha hb
theorem x_neW (hl : ∀ w ∈ l, ∀ c ∈ w, c ∈ alphaL) (ha : EvX Γ ta (rL K (l.map rSt))) (hb : EvX Γ tb (rL K (l.map rSt))) : EvX Γ (tOp (rNeD K) ta tb) (rB false) := by
  obtain ⟨l', rfl⟩ := al_listW hl
  rw [List.map_map] at ha hb
  exact x_neS (dt_l (ρ := fun a : AW => rSt a.1) dt_w56 l') (by decide) ha hb
end

theorem w_brk60 {W : WX} {Γ : Mu.Ctx} {M : List Re} {κ : Kn} (h : κ.bk Γ M) : WP W Γ M tBreak κ := fun B G H σ D o en d => d.bk σ G H Γ M o en h
theorem subO_out {row : List Nat} {z : Int} (h : ¬ (0 ≤ z ∧ z ≤ (row.length : Int))) : subO row z = [] := if_neg h
theorem subO_zero {row : List Nat} : subO row 0 = [row] := by
  have h1 : (subO row 0).Nodup := subO_sorted.imp fun {x y} q e => by rw [e] at q; exact List.lt_irrefl _ q
  have hm : ∀ w, w ∈ subO row 0 ↔ w = row := fun w => by
    unfold subO
    rw [if_pos ⟨Int.le_refl _, by omega⟩, mem_subF _ _ _ _ (by simp)]
    constructor
    · rintro ⟨s, e, h1, h2⟩
      obtain rfl : w = s := e
      exact h2.eq_of_length (by simpa using h1)
    · rintro rfl
      exact ⟨w, rfl, by simp, List.Sublist.refl _⟩
  exact List.Perm.eq_of_pairwise (le := fun a b : List Nat => a < b) (fun a b _ _ h1 h2 => absurd h1 (List.lt_asymm h2)) subO_sorted (by simp) ((List.perm_ext_iff_of_nodup h1 (by simp)).mpr fun w => by rw [hm, List.mem_singleton])
theorem subO_all {row : List Nat} : subO row (row.length : Int) = [[]] := by
  unfold subO
  rw [if_pos ⟨by omega, Int.le_refl _⟩, show row.length - ((row.length : Nat) : Int).toNat = 0 by omega, subF]
theorem first_two : (subO (alphaL ++ alphaL) 26)[0]? = some (97 :: alphaL.take 25) ∧ (subO (alphaL ++ alphaL) 26)[1]? = some (97 :: (alphaL.take 24 ++ [122])) := by
  unfold subO
  rw [if_pos (by decide)]
  decide +kernel

theorem e_frz60 {W : WX} {Γ : Mu.Ctx} {M : List Re} {te : TE} {κ : KV} {ε : KX} (h : EW W Γ M te (fun r M' => ∃ p ss M0, r = rV (.ref p) ∧ M' = M0 ++ [lstR p ss] ∧ κ (rL K ss) M0) ε) : EW W Γ M te κ ε := fun B G H σ o en Q q x => h B G H σ o en Q q.frz x
theorem subO_mem {row w : List Nat} {z : Int} (h : w ∈ subO row z) : w.Sublist row := by
  unfold subO at h
  split at h
  · obtain ⟨s, e, _, h2⟩ := (mem_subF _ _ _ _ (by omega)).mp h
    obtain rfl : w = s := e
    exact h2
  · exact nomatch h
theorem lf_ex {row : List Nat} {z : Int} : ∀ i, i ≤ (subL row.length).length → ∃ F, LfP row z i F
  | 0, _ => ⟨[], LfP.zero⟩
  | i + 1, h => by
    obtain ⟨F, hF⟩ := lf_ex (row := row) (z := z) i (by omega)
    obtain ⟨p, hp⟩ : ∃ p, (subL row.length)[i]? = some p := ⟨_, List.getElem?_eq_getElem (by omega)⟩
    by_cases c : ((p.length : Nat) : Int) = z ∧ lfR row p ∉ F
    · exact ⟨_, hF.yes hp c.1 c.2⟩
    · exact ⟨_, hF.no hp c⟩
theorem subO_few {row : List Nat} {z : Int} (h7 : row.length ≤ 7) : (subO row z).length ≤ 128 := by
  obtain ⟨F, hF⟩ := lf_ex (row := row) (z := z) _ (Nat.le_refl _)
  exact subO_len hF h7

theorem ok_law (T : Tx K mg) : FnOk P w K mg base CX0 5 T.f_law T.fd_law ["_law_script"] (sp_law K) := by
  refine T.F_law.ok sc_law (fun vs H Q E h => ?_) (fun cdv A outer s H vs Q E hr h => ?_)
  · obtain ⟨a, ns, rfl, _⟩ := h
    rfl
  · obtain ⟨a, ns, rfl, hS, hl, k⟩ := h
    refine ⟨_, PSs.nox (pss_cons (ps_set (i := 1) sc_law.nd rfl (Or.inl rfl) (pe_call (ok__law_box T) (hr.mono (by decide)) (by rfl) T.g__law_box T.F__law_box.kp (b__law_box T) .nil pass0 (pa_cons (pv 0) pa_nil)))
      (pss_cons (ps_set (i := 2) sc_law.nd rfl (Or.inl rfl) (pe_call (ok__law_letters T) (hr.mono (by decide)) (by rfl) T.g__law_letters T.F__law_letters.kp (b__law_letters T) .nil pass0 (pa_cons (pv 1) (pa_cons (pe_op op_add pe_int (pe_call (ok__law_take T) (hr.mono (by decide)) (by rfl) T.g__law_take T.F__law_take.kp (b__law_take T) .nil pass0 (pa_cons (pv 1) (pa_cons pe_int pa_nil)))) pa_nil))))
      (pss_cons (ps_set (i := 3) sc_law.nd rfl (Or.inl rfl) pe_str)
      (pss_cons (ps_for PassesOwn.never rfl (pi_range1 (by rfl) T.m_range (pa_cons (pe_op op_mod (pe_callTy call_int1 (by rfl) T.m_int (by decide +kernel) (pa_cons (pe_op op_add pe_int (pe_call (ok__law_take T) (hr.mono (by decide)) (by rfl) T.g__law_take T.F__law_take.kp (b__law_take T) .nil pass0 (pa_cons (pv 1) (pa_cons pe_int pa_nil)))) pa_nil)) pe_int) pa_nil)) (pg_name (i := 4) sc_law.nd rfl (Or.inl rfl)) (pss_one (ps_set (i := 3) sc_law.nd rfl (Or.inl rfl) (pe_op op_addT (pv 3) (pe_ix (ix_listK K) (pv 2) (pe_call (ok__law_take T) (hr.mono (by decide)) (by rfl) T.g__law_take T.F__law_take.kp (b__law_take T) .nil pass0 (pa_cons (pv 1) (pa_cons (pe_callB (call_lenK K) (by rfl) T.m_len PySem.boot_len (pa_cons (pv 2) pa_nil)) pa_nil))) (fun _ _ => rfl))))))
      (pss_cons (ps_set (i := 5) sc_law.nd rfl (Or.inl rfl) (pe_op op_sub (pe_call (ok__law_take T) (hr.mono (by decide)) (by rfl) T.g__law_take T.F__law_take.kp (b__law_take T) .nil pass0 (pa_cons (pv 1) (pa_cons (pe_op op_add (pe_callB call_lenT (by rfl) T.m_len PySem.boot_len (pa_cons (pv 3) pa_nil)) pe_int) pa_nil))) pe_int))
      (pss_cons (ps_set (i := 6) sc_law.nd rfl (Or.inl rfl) (pe_call (ok__law_left T) (hr.mono (by decide)) (by rfl) T.g__law_left T.F__law_left.kp (b__law_left T) .nil pass0 (pa_cons (pv 3) (pa_cons (pv 5) pa_nil))))
      (pss_cons (ps_for PassesOwn.never rfl (pi_range1 (by rfl) T.m_range (pa_cons pe_int pa_nil)) (pg_name (i := 7) sc_law.nd rfl (Or.inl rfl)) (pss_one (ps_if (pt_cmpR (op_neK K hr.units) (pe_listY (py_call (ok_subrows T) (hr.mono (by decide)) (by rfl) T.g_subrows T.F_subrows.kp (b_subrows T) (pa_cons (pv 3) (pa_cons (pv 5) pa_nil))) (hr.mono (by decide)) (by rfl) T.m_list (by rfl)) (pv 6) (nomark _)) (pss_one (ps_ret pe_bl)) pss_nil)))
      (pss_cons (ps_if (PW.pt (pw_or (pt_cmpR (op_neK K hr.units) (pe_listY (py_call (ok_subrows T) (hr.mono (by decide)) (by rfl) T.g_subrows T.F_subrows.kp (b_subrows T) (pa_cons (pv 3) (pa_cons pe_int pa_nil))) (hr.mono (by decide)) (by rfl) T.m_list (by rfl)) (pe_lst (pa_cons (pv 3) pa_nil)) (nomark _)) (pw_or1 (pt_cmpR (op_neK K hr.units) (pe_listY (py_call (ok_subrows T) (hr.mono (by decide)) (by rfl) T.g_subrows T.F_subrows.kp (b_subrows T) (pa_cons (pv 3) (pa_cons (pe_callB call_lenT (by rfl) T.m_len PySem.boot_len (pa_cons (pv 3) pa_nil)) pa_nil))) (hr.mono (by decide)) (by rfl) T.m_list (by rfl)) (pe_lst (pa_cons pe_str pa_nil)) (nomark _))))) (pss_one (ps_ret pe_bl)) pss_nil)
      (pss_cons (ps_if (PW.pt (pw_or (pt_cmpR (op_neK K hr.units) (pe_listY (py_call (ok_subrows T) (hr.mono (by decide)) (by rfl) T.g_subrows T.F_subrows.kp (b_subrows T) (pa_cons (pv 3) (pa_cons (pe_op op_sub (pe_un un_neg pe_int) (pe_call (ok__law_take T) (hr.mono (by decide)) (by rfl) T.g__law_take T.F__law_take.kp (b__law_take T) .nil pass0 (pa_cons (pv 1) (pa_cons pe_int pa_nil)))) pa_nil))) (hr.mono (by decide)) (by rfl) T.m_list (by rfl)) (pe_lst pa_nil) (nomark _)) (pw_or1 (pt_cmpR (op_neK K hr.units) (pe_listY (py_call (ok_subrows T) (hr.mono (by decide)) (by rfl) T.g_subrows T.F_subrows.kp (b_subrows T) (pa_cons (pv 3) (pa_cons (pe_op op_add (pe_callB call_lenT (by rfl) T.m_len PySem.boot_len (pa_cons (pv 3) pa_nil)) pe_int) pa_nil))) (hr.mono (by decide)) (by rfl) T.m_list (by rfl)) (pe_lst pa_nil) (nomark _))))) (pss_one (ps_ret pe_bl)) pss_nil)
      (pss_cons (ps_set (i := 8) sc_law.nd rfl (Or.inl rfl) pe_str)
      (pss_cons (ps_set (i := 9) sc_law.nd rfl (Or.inl rfl) (pe_lst pa_nil))
      (pss_cons (ps_nox (ps_forY0 rfl (hr.mono (by decide)) (py_call (ok_subrows T) (hr.mono (by decide)) (by rfl) T.g_subrows T.F_subrows.kp (b_subrows T) (pa_cons (pe_op op_mulU (pv 8) pe_int) (pa_cons pe_int pa_nil))) (pg_name (i := 10) sc_law.nd rfl (Or.inl rfl)) (pss_cons (ps_expr (pe_bm PySem.F.plainAttrs_list PySem.F.slot_list_append PySem.F.type_list_append mt_append (pv 9) (pa_cons (pv 10) pa_nil)))
      (pss_one (ps_if (pt_cmpR op_eq (pe_callB (call_lenK K) (by rfl) T.m_len PySem.boot_len (pa_cons (pv 9) pa_nil)) pe_int (nomark _)) (pss_one ps_break) pss_nil)))))
      (pss_one (ps_ret (pe_cmpR (op_eqK K hr.units) (pv 9) (pe_lst (pa_cons (pe_op op_addT pe_str (pe_slice sl_str (pv 8) po_none (po_some (pe_un un_neg pe_int)))) (pa_cons (pe_op op_addT (pe_op op_addT pe_str (pe_slice sl_str (pv 8) po_none (po_some (pe_un un_neg pe_int)))) pe_str) pa_nil))) (nomark _)))))))))))))))), ?_⟩
    refine run_law (W := fun _ _ _ _ => False) (n := 10) (i := 1) hS hl rfl rfl (by decide) k fun b => ?_
    change WP _ [none, some (rV (.ref b)), none, none, none, none, none, none, none, none, none] [boxR K b] _ _
    clear k hS hl
    refine w_seq (ws_set ?_)
    wtm_at "e"
    intro d0 hd0
    wtm_at "e"
    intro l0 hl0
    obtain ⟨hl0l, hl0A, hl0N⟩ := hl0
    try dsimp only [List.set]
    refine w_seq (ws_set (e_c ?_))
    rw [show rV (.str ("" : Str)) = rSt [] from rfl]
    try dsimp only [List.set]
    refine w_seq (w_forRW (α := List Nat) ?_)
    wtm_at "e"
    intro d hd
    wtm_at "e"
    obtain ⟨mm, hmm, hm2⟩ : ∃ mm : Nat, ((2 + d : Nat) : Int) % ((8 : Nat) : Int) = (mm : Int) ∧ mm ≤ 7 := ⟨(2 + d) % 8, by omega, by omega⟩
    refine ⟨mm, fun i (row : List Nat) => (∀ c ∈ row, c ∈ l0) ∧ row.length = i, fun _ row => [none, some (rV (.ref b)), some (rL K (l0.map rC)), some (rSt row), none, none, none, none, none, none, none], fun _ _ => [boxR K b], [], ?_, by omega, ⟨fun c hc => (nomatch hc), rfl⟩, by wtm_at "sub", rfl, fun i row hi hP => ?_, fun row hP => ?_⟩
    · exact congrArg (fun z => rV (.int z)) hmm
    · dsimp only [List.set]
      refine ws_set ?_
      wtm_at "e"
      intro at_ hat
      obtain ⟨c, hc⟩ : ∃ c, l0[at_]? = some c := ⟨_, List.getElem?_eq_getElem hat⟩
      refine om (x_ixL (rs := l0.map rC) (r := rC c) (x_v rfl) (x_v rfl) (by rw [List.getElem?_map, hc]; rfl)) ?_
      obtain ⟨hP1, hP2⟩ := hP
      refine om_addL (l := row) (l' := [c]) (by show _ + 1 ≤ _; omega) ⟨row ++ [c], ⟨fun x hx => ?_, by rw [List.length_append, hP2]; rfl⟩, by wtm_at "sub", rfl⟩
      rcases List.mem_append.mp hx with z | z
      · exact hP1 x z
      · rw [List.mem_singleton.mp z]; exact List.mem_of_getElem? hc
    obtain ⟨hP1, hP2⟩ := hP
    have hr7 : row.length ≤ 7 := by omega
    try dsimp only [List.set]
    refine w_seq (ws_set ?_)
    wtm_at "e"
    intro d2 hd2
    wtm_at "e"
    obtain ⟨z, hz⟩ : ∃ z : Int, z = (d2 : Int) - 1 := ⟨_, rfl⟩
    rw [show rV (V.int ((d2 : Int) - ((1 : Nat) : Int))) = Mu.rI z from congrArg (fun q => rV (.int q)) hz.symm]
    try dsimp only [List.set]
    clear hz hd2 d2
    refine w_seq (ws_set (e_call (a_cons (e_v rfl (a_cons (e_v rfl (a_nil (c_law_left T hr7 ?_))))))))
    try dsimp only [List.set]
    have hrA : ∀ w ∈ subO row z, ∀ c ∈ w, c ∈ alphaL := fun w hw c hc => hl0A c (hP1 c ((subO_mem hw).subset hc))
    have hol : ∀ z, (subO row z).length < 50000 := fun z => Nat.lt_of_le_of_lt (subO_few hr7) (by decide)
    have gen : ∀ {Γ : Mu.Ctx} {ta tb : TE} {z : Int}, EvX Γ ta (rSt row) → EvX Γ tb (Mu.rI z) → EvX Γ (tListY (tCallY (spYl (R_subrows T)) 2 (tCons ta (tCons tb tNil)))) (rL K ((subO row z).map rSt)) := fun {Γ ta tb z} ha hb => EvNX.d (K := K) (xn_listY (yl_subrows T ha hb (by omega)) (by rw [List.length_map]; exact hol z))
    refine w_seq (w_forR 2 (fun _ (_ : Unit) => True) (fun _ _ => [none, some (rV (.ref b)), some (rL K (l0.map rC)), some (rSt row), none, some (Mu.rI z), some (rL K ((subO row z).map rSt)), none, none, none, none]) (fun _ _ => [boxR K b]) (x_cn 2) (by omega) () trivial (by wtm_at "sub") rfl (fun i _ hi _ => ?_) (fun _ _ => ?_))
    · dsimp only [List.set]
      exact w_no (t_T (x_neW hrA (gen (x_v rfl) (x_v rfl)) (x_v rfl))) (w_nx ⟨(), trivial, by wtm_at "sub", rfl⟩)
    have hrow : ∀ w ∈ [row], ∀ c ∈ w, c ∈ alphaL := fun w hw c hc => by
      rw [List.mem_singleton.mp hw] at hc
      exact hl0A c (hP1 c hc)
    refine w_seq (w_no (t_is (t_or (c := false) (d := false) (t_T (x_neW hrow (x_is (gen (x_v rfl) (x_cn 0)) (by rw [show ((0 : Nat) : Int) = 0 from rfl, subO_zero])) (EvNX.d (K := K) (xn_lst (rs := [rSt row]) (xa_cons (x_v rfl) xa_nil) (by show 1 ≤ 100000; decide))))) fun _ => t_T (x_neW (l := [[]]) (fun w hw c hc => by rw [List.mem_singleton.mp hw] at hc; exact nomatch hc) (x_is (gen (x_v rfl) (x_lenTx (x_v rfl) (by omega))) (by rw [subO_all])) (EvNX.d (K := K) (xn_lst (rs := [rSt []]) (xa_cons (x_is x_c rfl) xa_nil) (by show 1 ≤ 100000; decide))))) rfl) (w_nx ?_))
    try dsimp only
    refine w_seq (ws_if (w_tOr (w_t (e_op (e_frz60 (K := K) (e_lstY (e_yc (a_cons (e_v rfl (a_cons ?_))))))))))
    wtm_at "e"
    intro d3 hd3
    wtm_at "e"
    refine ⟨rfl, [], fun vs G ra => ⟨row, _, ra, by omega, by rw [subO_out (by omega)]; rfl⟩, by show 0 < 50000; decide, fun p => ⟨p, [], _, rfl, rfl, ?_⟩⟩
    refine e_x (r := rL K []) (x_lst xa_nil (by show 0 ≤ 100000; decide)) (om (x_neW (l := []) (fun w hw => nomatch hw) (x_v rfl) (x_v rfl)) ⟨false, rfl, fun _ => ?_, fun z => nomatch z⟩)
    refine w_tx (c := false) (t_T (x_neW (l := []) (fun w hw => nomatch hw) (x_is (gen (x_v rfl) (x_addN (x_lenTx (x_v rfl) (by omega)) (x_cn 1))) (by rw [subO_out (by omega)])) (x_lst xa_nil (by show 0 ≤ 100000; decide)))) ⟨(fun z => nomatch z), fun _ => ?_⟩
    refine w_nx ?_
    try dsimp only
    refine w_seq (ws_set (e_x (r := rSt alphaL) (x_is x_c (congrArg (fun s => rV (.str s)) ((sL_of ALPHA).symm.trans (congrArg sL alpha_cps)))) ?_))
    try dsimp only [List.set]
    refine w_seq (ws_set (e_lstN (a_nil ⟨by show 0 ≤ 100000; decide, fun p => ?_⟩)))
    try dsimp only [List.set, List.cons_append, List.nil_append]
    obtain ⟨f1, f2⟩ := first_two
    obtain ⟨w1, hw1⟩ : ∃ w1, w1 = 97 :: alphaL.take 25 := ⟨_, rfl⟩
    obtain ⟨w2, hw2⟩ : ∃ w2, w2 = 97 :: (alphaL.take 24 ++ [122]) := ⟨_, rfl⟩
    rw [← hw1] at f1
    rw [← hw2] at f2
    obtain ⟨out, ho⟩ : ∃ out, out = (subO (alphaL ++ alphaL) 26).map rSt := ⟨_, rfl⟩
    have ho0 : out[0]? = some (rSt w1) := by rw [ho, List.getElem?_map, f1]; rfl
    have ho1 : out[1]? = some (rSt w2) := by rw [ho, List.getElem?_map, f2]; rfl
    have ho2 : out.take 2 = [w1, w2].map rSt := by
      rw [List.take_add_one, ho1, List.take_add_one, ho0]; rfl
    have hol2 : 2 ≤ out.length := (List.getElem?_eq_some_iff.mp ho1).1
    have hgen : EvY [none, some (rV (.ref b)), none, none, none, none, none, none, some (rSt alphaL), some (rV (.ref p)), none] (tCallY (spYl (R_subrows T)) 2 (tCons (tOp rMulU (tVar 8) (tC (.int 2))) (tCons (tC (.int 26)) tNil))) out := by
      rw [ho]
      exact yl_subrows T (x_is (x_mulU (k := 2) (x_v rfl) (x_cn 2) (by decide) (by decide)) (by rfl)) (x_cn 26) (by decide)
    refine w_sub (Γ' := [none, some (rV (.ref b)), none, none, none, none, none, none, some (rSt alphaL), some (rV (.ref p)), none]) (by wtm_at "sub") ?_
    refine w_seq (w_forY hgen 2 (by decide) (fun i (_ : Unit) => i < 2) (fun _ _ => [none, some (rV (.ref b)), none, none, none, none, none, none, some (rSt alphaL), some (rV (.ref p)), none]) (fun i _ => [boxR K b, lstR p (out.take i)]) (fun i _ h => h) () (by decide) (by wtm_at "sub") rfl (fun i _ r nap hr hi => ?_) (fun i _ hi hn => ?_))
    · dsimp only [List.set, List.cons_append, List.nil_append]
      refine w_seq (ws_do (e_app 1 rfl (e_v rfl ⟨_, rfl, by rw [List.length_take]; omega, ?_⟩) rfl))
      dsimp only [List.set]
      have htk : out.take i ++ [r] = out.take (i + 1) := by rw [List.take_add_one, hr]; rfl
      rw [htk]
      refine ws_if (et_bx (c := decide (i + 1 = 2)) (fun _ => false) (bx_set (i := 9) bx_refl rfl (bx_lst (K := K) (k := 1) rfl)) ?_ ⟨fun hb => ?_, fun hb => ?_⟩)
      · dsimp only [List.set]
        exact t_T (x_eqN (x_is (x_lenL (x_v rfl)) (by rw [List.length_take, Nat.min_eq_left (by omega)])) (x_cn 2))
      · have hi1 : i + 1 = 2 := of_decide_eq_true hb
        refine w_brk60 ⟨[boxR K b, lstR p (out.take (i + 1))], rfl, ?_⟩
        rw [hi1, ho2]
        refine w_frz K 1 9 rfl rfl ?_
        try dsimp only [List.set, List.eraseIdx]
        have hA2 : ∀ w ∈ [w1, w2], ∀ c ∈ w, c ∈ alphaL := by
          rw [hw1, hw2]
          decide
        refine ws_ret (e_x (x_eqW hA2 (x_v rfl) (EvNX.d (K := K) (xn_lst (rs := [rSt w1, rSt w2]) (xa_cons (x_is (x_addT x_c (x_sCut (x_v rfl) (x_is (x_neg (x_cn 1)) rfl) (by decide)) (by decide +kernel)) (by rw [hw1]; exact congrArg rS (by decide +kernel))) (xa_cons (x_is (x_addT (x_addT x_c (x_sCut (x_v rfl) (x_is (x_neg (x_cn 2)) rfl) (by decide)) (by decide +kernel)) x_c (by decide +kernel)) (by rw [hw2]; exact congrArg rS (by decide +kernel))) xa_nil)) (by show 2 ≤ 100000; decide)))) rfl)
      · have hi1 : i + 1 ≠ 2 := of_decide_eq_false hb
        refine w_nx ⟨[boxR K b, lstR p (out.take (i + 1))], rfl, (), by omega, by wtm_at "sub", rfl⟩
    · exfalso
      have := List.getElem?_eq_none_iff.mp hn
      omega
end
end MuL

set_option maxHeartbeats 0
open PySem PySem.W PySem.Calls PyProof.Rows
set_option maxRecDepth 100000 in
set_option maxHeartbeats 0 in
theorem PySem.Challenge.cw_murmurline_k60_lost_letters_holds : PySem.Challenge.rw_murmurline_k60_lost_letters.Holds := by
  w_on; o_law
  refine HandSHeadRun.head_any (r := OpenLaw.row PySem.Challenge.rw_murmurline_k60_lost_letters) (q := view (OpenLaw.row PySem.Challenge.rw_murmurline_k60_lost_letters).prog [8]) (H := MuL.hk) (ob := MuL.ob) (M := 40000) (loose := MuL.loose) (d := HandSHeadRun.topDef (OpenLaw.row PySem.Challenge.rw_murmurline_k60_lost_letters).prog 8) (kwd := []) MuL.ob_eq
    (by kernel_rfl) (fun s => by kernel_rfl) MuL.run (by kernel_rfl) (by kernel_rfl) (by kernel_rfl) (by rfl) (by first | assumption | decide +kernel) (by decide +kernel) ⟨rfl, rfl, rfl, rfl, rfl, by decide +kernel⟩ ?hw ?hc
  case hw => w_witness2
  case hc =>
    refine L2.walk_ofE (l := PySem.Challenge.rw_murmurline_k60_lost_letters) (n := 63) (k := 5) (x := "_law_script") (CX := L2.CX0) rfl (by decide) (by kernel_rfl) ⟨rfl, by decide, by decide⟩ ?F (fun _ _ _ _ z => z)
    intro w mg fa h Y G hmg0
    obtain ⟨K, KX, c⟩ := Y
    have hmg : mg ("law" : PySem.Str) = some (.ref fa) := by
      have e : (HandSHeadRun.topDef (OpenLaw.row PySem.Challenge.rw_murmurline_k60_lost_letters).prog 8).name = ("law" : PySem.Str) := by kernel_rfl
      rw [← e]
      exact hmg0
    obtain ⟨T, hT⟩ := MuL.mkTx KX G c
    have e := hmg.symm.trans T.g_law
    cases e
    exact ⟨K, T.fd_law, MuL.sp_law K, KX, fun s v => T.F_law.bindsA (ps := ["_law_script"]) (fun _ _ _ _ _ _ us hl => match us, hl with | [_], _ => rfl) s [v] rfl, fun H a ns hl _ hS => ⟨a, ns, rfl, hS, hl, fun _ => rfl⟩, fun base _ _ => MuL.ok_law T⟩
#print axioms PySem.Challenge.cw_murmurline_k60_lost_letters_holds
