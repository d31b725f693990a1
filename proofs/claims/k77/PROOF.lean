import PyProof.Rows.All
import Wide.All
import OpenK.AllK
import Wide.FinOn
import HandS.ForMost
import HandS.Evl
import HandS.Lambda
import HandS.Defaults
import HandS.MakeKwOnly
import HandS.IsInst
import KE.SortData
import KE.SortKeyHeap
import HandS.SortKw
import HandS.Text
import KE.DataMinKey
import HandS.DictComp
import PySem.Challenge.RW_promptworks_k77_held_wishes_count_anew
import HandS.More
import HandS.Style
import KE.GoesEnumKw
import HandS.Head0
import HandS.Head1
import HandS.Head2
import HandS.HeadEnd
import HandS.HeadHook4
import HandS.HeadWalk
import HandS.NestedK

set_option Elab.async false
set_option linter.all false
set_option maxRecDepth 100000
set_option maxHeartbeats 2000000
namespace Pw
open PySem L2
open Evl (sq_of st_of)

/-! ### 1. heaps that grow: B what stands for good, H all that is tracked; the code tables of defs with lambdas alone may change -/
/-- the code tables that lambdas write: each with the name that its code objects bear -/
class Tbs where
  T : List (Addr × Str)
/-- neither a code table nor a code object -/
def NT (o : HO) : Prop := ∀ ps, o ≠ .tbl ps
def PO (o : HO) : Prop := NT o ∧ ∀ c q, o ≠ LamX.CodeO c q
theorem codeO_nt {c : Addr} {q : Str} : NT (LamX.CodeO c q) := fun _ => LamX.codeO_ne _
theorem po_lst {xs : List V} : PO (.lst xs) := ⟨fun _ h => (by cases h), fun _ _ h => (by unfold LamX.CodeO at h; cases h)⟩
theorem po_tup {xs : List V} : PO (.tup xs) := ⟨fun _ h => (by cases h), fun _ _ h => (by unfold LamX.CodeO at h; cases h)⟩
theorem po_dK {xs : List (Key × V)} : PO (.dK xs) := ⟨fun _ h => (by cases h), fun _ _ h => (by unfold LamX.CodeO at h; cases h)⟩
theorem po_dT {xs : List (List Key × V)} : PO (.dT xs) := ⟨fun _ h => (by cases h), fun _ _ h => (by unfold LamX.CodeO at h; cases h)⟩
theorem po_ins {C dx : Addr} {fs : List (Str × V)} : PO (.ins C dx fs) := ⟨fun _ h => (by cases h), fun _ _ h => (by unfold LamX.CodeO at h; cases h)⟩
theorem po_own {x : Addr} : PO (.own x) := ⟨fun _ h => (by cases h), fun _ _ h => (by unfold LamX.CodeO at h; cases h)⟩
theorem po_frz {o : Obj} {u : HO} : PO (.frz o u) := ⟨fun _ h => (by cases h), fun _ _ h => (by unfold LamX.CodeO at h; cases h)⟩
/-- the tables stand in X -/
def Tb [Tbs] (X : Hp) : Prop := LamX.Tabs Tbs.T X
section
variable [Tbs]
structure Ex (X Y : Hp) : Prop where
  at_ : ∀ b o, X b = some o → NT o → Y b = some o
  tab : ∀ b ps, X b = some (.tbl ps) → ∃ ps', Y b = some (.tbl ps')
  l : Tb X
  r : Tb Y
theorem Ex.ap {X Y : Hp} (e : Ex X Y) (b : Addr) (o : HO) (h : X b = some o) (nt : NT o := by first | exact po_lst.1 | exact po_tup.1 | exact po_ins.1 | exact po_dK.1 | exact po_dT.1 | exact po_own.1 | exact po_frz.1 | assumption) : Y b = some o := e.at_ b o h nt
instance {X Y : Hp} : CoeFun (Ex X Y) fun _ => ∀ b o, X b = some o → (nt : NT o := by first | exact po_lst.1 | exact po_tup.1 | exact po_ins.1 | exact po_dK.1 | exact po_dT.1 | exact po_own.1 | exact po_frz.1 | assumption) → Y b = some o := ⟨@Ex.ap _ _ _⟩
theorem Ex.refl {X : Hp} (t : Tb X) : Ex X X := ⟨fun _ _ h _ => h, fun _ ps h => ⟨ps, h⟩, t, t⟩
theorem Ex.refl' {X : Hp} (t : Tb X) : Ex X X := .refl t
theorem Ex.trans {X Y Z : Hp} (e : Ex X Y) (f : Ex Y Z) : Ex X Z := ⟨fun b o h n => f.at_ b o (e.at_ b o h n) n, fun b ps h => let ⟨ps', h'⟩ := e.tab b ps h; f.tab b ps' h', e.l, f.r⟩
theorem Tb.new {X : Hp} {p : Addr} {o : HO} (t : Tb X) (h : X p = none) : Tb (upd X p o) := LamX.Tabs.ext t fun a u e => by
  rw [upd_ne (ne_of_none e h)]
  exact e
theorem Tb.set {X : Hp} {p : Addr} {o o' : HO} (t : Tb X) (h : X p = some o) (n : PO o) : Tb (upd X p o') := fun q hq => by
  obtain ⟨ps, h1, h2, h3⟩ := t q hq
  have np : q.1 ≠ p := fun z => by
    rw [z, h] at h1
    exact n.1 ps (Option.some.inj h1)
  refine ⟨ps, by rw [upd_ne np]; exact h1, h2, fun pos cv hc => ?_⟩
  obtain ⟨c, e1, e2⟩ := h3 pos cv hc
  have nc : c ≠ p := fun z => by
    rw [z, h] at e2
    exact n.2 _ _ (Option.some.inj e2)
  exact ⟨c, e1, by rw [upd_ne nc]; exact e2⟩
theorem Ex.new {X : Hp} {p : Addr} {o : HO} (t : Tb X) (h : X p = none) : Ex X (upd X p o) := ⟨fun a u e _ => by
  rw [upd_ne (ne_of_none e h)]
  exact e, fun a ps e => ⟨ps, by rw [upd_ne (ne_of_none e h)]; exact e⟩, t, t.new h⟩
/-- an object that X does not know is laid | may change -/
theorem Ex.mutN {X Y : Hp} {p : Addr} {o : HO} (e : Ex X Y) (h : X p = none) (h2 : Y p = none) : Ex X (upd Y p o) := e.trans (.new e.r h2)
theorem Ex.mutS {X Y : Hp} {p : Addr} {o o' : HO} (e : Ex X Y) (h : X p = none) (h2 : Y p = some o) (n : PO o) : Ex X (upd Y p o') := ⟨fun a u ha nt => by
  rw [upd_ne (ne_of_none ha h)]
  exact e.at_ a u ha nt, fun a ps ha => by
  rw [upd_ne (ne_of_none ha h)]
  exact e.tab a ps ha, e.l, e.r.set h2 n⟩
theorem ex_rd {X Y : Hp} {a : Addr} {u : HO} (e : Ex X Y) (h : Rd X a u) (n : NT u) : Rd Y a u := by
  rcases h with h | ⟨o, h⟩
  · exact Or.inl (e.at_ a _ h n)
  · exact Or.inr ⟨o, e.at_ a _ h po_frz.1⟩
theorem ex_l {K : PySem.W.Frag} {X Y : Hp} {a : Addr} {xs : List V} (e : Ex X Y) (h : SqL K X a xs) : SqL K Y a xs := by
  rcases h with h | h
  · exact Or.inl (ex_rd e h po_lst.1)
  · exact Or.inr h
theorem ex_t {K : PySem.W.Frag} {X Y : Hp} {a : Addr} {xs : List V} (e : Ex X Y) (h : SqT K X a xs) : SqT K Y a xs := by
  rcases h with h | h
  · exact Or.inl (ex_rd e h po_tup.1)
  · exact Or.inr h
theorem ex_none {B H : Hp} (e : Ex B H) {a : Addr} (h : H a = none) : B a = none := by
  cases q : B a with
  | none => rfl
  | some o =>
    by_cases n : NT o
    · rw [e.at_ a o q n] at h
      cases h
    · obtain ⟨ps, z⟩ := Classical.not_forall.mp n
      have z2 := Classical.not_not.mp z
      subst z2
      obtain ⟨ps', h'⟩ := e.tab a ps q
      rw [h'] at h
      cases h
structure Grow (B H B' H' : Hp) : Prop where
  b : Ex B B'
  bh : Ex B' H'
  h : Ex H H'
  new : ∀ a o, B' a = some o → B a = some o ∨ H a = none
/-- c is mine: it stands in H, is no part of what stands for good, and was not there at the entry -/
structure Cell (H0 B H : Hp) (c : Addr) (o : HO) : Prop where
  at_ : H c = some o
  nb : B c = none
  n0 : H0 c = none
  po : PO o
section
variable {B H B1 H1 B2 H2 B0 H0 : Hp} {p c d : Addr} {o o' u : HO}
theorem Grow.refl (e : Ex B H) : Grow B H B H := ⟨.refl e.l, e, .refl e.r, fun _ _ h => .inl h⟩
theorem Grow.trans (g : Grow B H B1 H1) (k : Grow B1 H1 B2 H2) : Grow B H B2 H2 :=
  ⟨g.b.trans k.b, k.bh, g.h.trans k.h, fun a o h => by
    rcases k.new a o h with h | h
    · exact g.new a o h
    · exact .inr (ex_none g.h h)⟩
theorem ex_laid (e : Ex B H) (h : H p = none) : Ex (upd B p o) (upd H p o) := ⟨fun a u q n => by
  by_cases z : a = p
  · subst z; rw [upd_same] at q ⊢; exact q
  · rw [upd_ne z] at q ⊢; exact e.at_ a u q n, fun a ps q => by
  by_cases z : a = p
  · subst z; rw [upd_same] at q ⊢; exact ⟨ps, q⟩
  · rw [upd_ne z] at q ⊢; exact e.tab a ps q, e.l.new (ex_none e h), e.r.new h⟩
/-- a new object that stands for good -/
theorem Grow.laid (g : Grow B0 H0 B H) (h : H p = none) : Grow B0 H0 (upd B p o) (upd H p o) :=
  ⟨g.b.trans (Ex.new g.bh.l (ex_none g.bh h)), ex_laid g.bh h, g.h.trans (Ex.new g.h.r h), fun a u q => by
    by_cases z : a = p
    · subst z; exact .inr (ex_none g.h h)
    · rw [upd_ne z] at q; exact g.new a u q⟩
/-- a new object of mine -/
theorem Grow.cell (g : Grow B0 H0 B H) (h : H p = none) : Grow B0 H0 B (upd H p o) :=
  ⟨g.b, g.bh.mutN (ex_none g.bh h) h, g.h.trans (Ex.new g.h.r h), g.new⟩
theorem Cell.mk' (g : Grow B0 H0 B H) (h : H p = none) (po : PO o := by first | exact po_lst | exact po_dK | exact po_ins | exact po_tup | assumption) : Cell H0 B (upd H p o) p o := ⟨upd_same, ex_none g.bh h, ex_none g.h h, po⟩
theorem Cell.new (x : Cell H0 B H c o) (h : H p = none) : Cell H0 B (upd H p u) c o :=
  ⟨by rw [upd_ne (ne_of_none x.at_ h)]; exact x.at_, x.nb, x.n0, x.po⟩
theorem Cell.laid (x : Cell H0 B H c o) (h : H p = none) : Cell H0 (upd B p u) (upd H p u) c o :=
  ⟨by rw [upd_ne (ne_of_none x.at_ h)]; exact x.at_, by rw [upd_ne (ne_of_none x.at_ h)]; exact x.nb, x.n0, x.po⟩
theorem Cell.grow (x : Cell H0 B H c o) (g : Grow B H B1 H1) : Cell H0 B1 H1 c o := by
  refine ⟨g.h.at_ _ _ x.at_ x.po.1, ?_, x.n0, x.po⟩
  cases q : B1 c with
  | none => rfl
  | some u =>
    rcases g.new _ _ q with z | z
    · rw [x.nb] at z; cases z
    · rw [x.at_] at z; cases z
/-- mine is changed -/
theorem Grow.mut (g : Grow B0 H0 B H) (x : Cell H0 B H c o) : Grow B0 H0 B (upd H c o') := ⟨g.b, g.bh.mutS x.nb x.at_ x.po, g.h.mutS x.n0 x.at_ x.po, g.new⟩
theorem Cell.set (x : Cell H0 B H c o) (po : PO o' := by first | exact po_lst | exact po_dK | exact po_ins | exact po_tup | assumption) : Cell H0 B (upd H c o') c o' := ⟨upd_same, x.nb, x.n0, po⟩
theorem Cell.other (x : Cell H0 B H d u) (n : d ≠ c) : Cell H0 B (upd H c o') d u := ⟨by rw [upd_ne n]; exact x.at_, x.nb, x.n0, x.po⟩
/-- mine stands for good from here on -/
theorem Grow.freeze (g : Grow B0 H0 B H) (x : Cell H0 B H c o) : Grow B0 H0 (upd B c o) H :=
  ⟨g.b.trans (Ex.new g.bh.l x.nb), ⟨fun a u q n => by
    by_cases z : a = c
    · subst z; rw [upd_same] at q; rw [x.at_]; exact q
    · rw [upd_ne z] at q; exact g.bh.at_ a u q n, fun a ps q => by
    by_cases z : a = c
    · subst z; rw [upd_same] at q; exact absurd (Option.some.inj q) (x.po.1 ps)
    · rw [upd_ne z] at q; exact g.bh.tab a ps q, g.bh.l.new x.nb, g.bh.r⟩, g.h, fun a u q => by
    by_cases z : a = c
    · subst z; exact .inr x.n0
    · rw [upd_ne z] at q; exact g.new a u q⟩
theorem Cell.freeze (x : Cell H0 B H d u) (n : d ≠ c) : Cell H0 (upd B c o) H d u := ⟨x.at_, by rw [upd_ne n]; exact x.nb, x.n0, x.po⟩
/-- a smaller B, H: the callee's growth is the caller's -/
theorem Grow.up (g : Grow B1 H B2 H2) (e : Ex B B1) (bh : Ex B1 H) : ∀ a o, B2 a = some o → B1 a = some o ∨ H a = none := g.new
end

/-- both, in one -/
def join (A B : Hp) : Hp := fun a => match A a with | some o => some o | none => B a
theorem join_some {A B : Hp} {a : Addr} {o : HO} (h : A a = some o) : join A B a = some o := by unfold join; rw [h]
theorem join_none {A B : Hp} {a : Addr} (h : A a = none) : join A B a = B a := by unfold join; rw [h]
theorem Grow.widen {B B1 H B2 H2 : Hp} (g : Grow B H B2 H2) (e : Ex B B1) (bh : Ex B1 H) : Grow B1 H (join B1 B2) H2 ∧ Ex B2 (join B1 B2) := by
  have tj : Tb (join B1 B2) := LamX.Tabs.ext e.r fun a o h => join_some h
  have l1 : Ex B1 (join B1 B2) := ⟨fun a o h _ => join_some h, fun a ps h => ⟨ps, join_some h⟩, e.r, tj⟩
  have l2 : Ex (join B1 B2) H2 := ⟨fun a o h n => by
    cases q : B1 a with
    | some u => rw [join_some q] at h; cases h; exact g.h.at_ _ _ (bh.at_ _ _ q n) n
    | none => rw [join_none q] at h; exact g.bh.at_ _ _ h n, fun a ps h => by
    cases q : B1 a with
    | some u =>
      rw [join_some q] at h; cases h
      obtain ⟨p1, h1⟩ := bh.tab _ _ q
      exact g.h.tab _ _ h1
    | none => rw [join_none q] at h; exact g.bh.tab _ _ h, tj, g.bh.r⟩
  refine ⟨⟨l1, l2, g.h, fun a o h => ?_⟩, ⟨fun a o h n => ?_, fun a ps h => ?_, g.bh.l, tj⟩⟩
  · cases q : B1 a with
    | some u => rw [join_some q] at h; exact .inl h
    | none =>
      rw [join_none q] at h
      rcases g.new _ _ h with z | z
      · by_cases n : NT o
        · rw [e.at_ _ _ z n] at q; cases q
        · obtain ⟨ps, z2⟩ := Classical.not_forall.mp n
          have z3 := Classical.not_not.mp z2
          subst z3
          obtain ⟨p1, h1⟩ := e.tab _ _ z
          rw [h1] at q; cases q
      · exact .inr z
  · cases q : B1 a with
    | some u =>
      rw [join_some q]
      have h1 := g.bh.at_ _ _ h n
      have nu : NT u := fun ps z => by
        subst z
        obtain ⟨p1, h2⟩ := bh.tab _ _ q
        obtain ⟨p2, h3⟩ := g.h.tab _ _ h2
        rw [h3] at h1
        exact n p2 (Option.some.inj h1).symm
      rw [g.h.at_ _ _ (bh.at_ _ _ q nu) nu] at h1
      exact h1
    | none => rw [join_none q]; exact h
  · cases q : B1 a with
    | some u =>
      rw [join_some q]
      obtain ⟨p0, h0⟩ := g.bh.tab _ _ h
      by_cases nu : NT u
      · rw [g.h.at_ _ _ (bh.at_ _ _ q nu) nu] at h0
        cases h0
        exact absurd rfl (nu p0)
      · obtain ⟨ps2, z2⟩ := Classical.not_forall.mp nu
        have z3 := Classical.not_not.mp z2
        exact ⟨ps2, by rw [z3]⟩
    | none => rw [join_none q]; exact ⟨ps, h⟩

/-! ### 2. what an expression comes to, from B on -/
def EvP (te : TE) (σ : St) (B : Hp) (P : Hp → V → Prop) : Prop := ∀ H, Ex B H → ∀ Q : VK, (∀ v B' H', Grow B H B' H' → P B' v → Q v H') → te σ H Q
def EvT (t : TT) (σ : St) (B : Hp) (b : Bool) : Prop := ∀ H, Ex B H → ∀ Q : Bool → Hp → Prop, (∀ B' H', Grow B H B' H' → Q b H') → t σ H Q
def EvA (t : TA) (σ : St) (B : Hp) (P : Hp → List V → Prop) : Prop := ∀ H, Ex B H → ∀ Q : List V → Hp → Prop, (∀ vs B' H', Grow B H B' H' → P B' vs → Q vs H') → t σ H Q
def EvR (r : Hp → VK → Prop) (B : Hp) (P : Hp → V → Prop) : Prop := ∀ H, Ex B H → ∀ Q : VK, (∀ v B' H', Grow B H B' H' → P B' v → Q v H') → r H Q
abbrev Is (v : V) : Hp → V → Prop := fun _ w => w = v
abbrev EvV (te : TE) (σ : St) (B : Hp) (v : V) : Prop := EvP te σ B (Is v)
/-- it holds of all that stands for longer, too -/
class Mono {α : Type} (P : Hp → α → Prop) : Prop where
  up : ∀ {B B' : Hp} {v : α}, Ex B B' → P B v → P B' v
instance {v : V} : Mono (Is v) := ⟨fun _ h => h⟩
instance monoC {α : Type} {p : α → Prop} : Mono (fun (_ : Hp) (a : α) => p a) := ⟨fun _ h => h⟩
section
variable {te ta tb : TE} {t u : TT} {σ : St} {B B1 : Hp} {P Pa Pb : Hp → V → Prop} {x y z v : V} {b c : Bool}
theorem EvP.mono [Mono P] (h : EvP te σ B P) (e : Ex B B1) : EvP te σ B1 P := fun H bh Q q => h H (e.trans bh) Q fun v B' H' g p =>
  let ⟨g1, e1⟩ := g.widen e bh
  q v _ H' g1 (Mono.up e1 p)
theorem EvT.mono (h : EvT t σ B b) (e : Ex B B1) : EvT t σ B1 b := fun H bh Q q => h H (e.trans bh) Q fun B' H' g => q _ H' (g.widen e bh).1
theorem EvP.imp (h : EvP te σ B Pa) (i : ∀ B' v, Ex B B' → Pa B' v → Pb B' v) : EvP te σ B Pb := fun H bh Q q => h H bh Q fun v B' H' g p => q v B' H' g (i B' v g.b p)
theorem evp_var (h : σ[i]? = some (some v)) (p : P B v) : EvP (tVar i) σ B P := fun H bh Q q => ⟨v, h, q v B H (Grow.refl bh) p⟩
theorem evv_var (h : σ[i]? = some (some v)) : EvV (tVar i) σ B v := evp_var h rfl
theorem evv_c : EvV (tC v) σ B v := fun H bh Q q => q v B H (Grow.refl bh) rfl
theorem evp_c (p : P B v) : EvP (tC v) σ B P := fun H bh Q q => q v B H (Grow.refl bh) p
/-- both operands, then the operator -/
theorem evp_op {r : R2} [Mono Pa] (ha : EvP ta σ B Pa) (hb : ∀ B', Ex B B' → EvP tb σ B' Pb) (hr : ∀ x y B', Ex B B' → Pa B' x → Pb B' y → EvR (r x y) B' P) : EvP (tOp r ta tb) σ B P := fun H bh Q q =>
  ha H bh _ fun x B1 H1 g1 p1 => hb B1 g1.b H1 g1.bh _ fun y B2 H2 g2 p2 => hr x y B2 (g1.b.trans g2.b) (Mono.up g2.b p1) p2 H2 g2.bh Q fun v B3 H3 g3 p3 => q v B3 H3 ((g1.trans g2).trans g3) p3
theorem evv_op {r : R2} (ha : EvV ta σ B x) (hb : EvV tb σ B y) (hr : ∀ B', Ex B B' → EvR (r x y) B' P) : EvP (tOp r ta tb) σ B P :=
  evp_op ha (fun B' e => hb.mono e) fun x' y' B' e h1 h2 => by cases h1; cases h2; exact hr B' e
theorem evp_un {r : V → Hp → VK → Prop} (ha : EvP ta σ B Pa) (hr : ∀ x B', Ex B B' → Pa B' x → EvR (r x) B' P) : EvP (tUn r ta) σ B P := fun H bh Q q =>
  ha H bh _ fun x B1 H1 g1 p1 => hr x B1 g1.b p1 H1 g1.bh Q fun v B2 H2 g2 p2 => q v B2 H2 (g1.trans g2) p2
/-! operators -/
theorem evr_now {r : Hp → VK → Prop} (h : ∀ H, Ex B H → ∀ Q : VK, Q v H → r H Q) (p : P B v) : EvR r B P := fun H bh Q q => h H bh Q (q v B H (Grow.refl bh) p)
theorem evr_I0 {g : Int → Int → V} {i j : Int} : EvR (rI0 g (.int i) (.int j)) B (Is (g i j)) := evr_now (fun H _ Q q => ⟨i, j, rfl, rfl, q⟩) rfl
theorem evr_I {C : Int → Int → Prop} {g : Int → Int → V} {i j : Int} (hc : C i j) : EvR (rI C g (.int i) (.int j)) B (Is (g i j)) := evr_now (fun H _ Q q => ⟨i, j, rfl, rfl, hc, q⟩) rfl
theorem evr_eq (h : scal x y = true) : EvR (rEq x y) B (Is (.bl (decide (x = y)))) := evr_now (fun H _ Q q => ⟨h, q⟩) rfl
theorem evr_ne (h : scal x y = true) : EvR (rNe x y) B (Is (.bl (!decide (x = y)))) := evr_now (fun H _ Q q => ⟨h, q⟩) rfl
/-- whole numbers: an operator, a comparison -/
theorem evv_I0 {g : Int → Int → V} {i j : Int} (ha : EvV ta σ B (.int i)) (hb : EvV tb σ B (.int j)) : EvV (tOp (rI0 g) ta tb) σ B (g i j) := evv_op ha hb fun B' _ => evr_I0
theorem evv_I {C : Int → Int → Prop} {g : Int → Int → V} {i j : Int} (ha : EvV ta σ B (.int i)) (hb : EvV tb σ B (.int j)) (hc : C i j) : EvV (tOp (rI C g) ta tb) σ B (g i j) := evv_op ha hb fun B' _ => evr_I hc
theorem evv_eq (ha : EvV ta σ B x) (hb : EvV tb σ B y) (h : scal x y = true) : EvV (tOp rEq ta tb) σ B (.bl (decide (x = y))) := evv_op ha hb fun B' _ => evr_eq h
theorem evv_ne (ha : EvV ta σ B x) (hb : EvV tb σ B y) (h : scal x y = true) : EvV (tOp rNe ta tb) σ B (.bl (!decide (x = y))) := evv_op ha hb fun B' _ => evr_ne h
theorem evv_U {g : Int → V} {i : Int} (ha : EvV ta σ B (.int i)) : EvV (tUn (rU g) ta) σ B (g i) := evp_un ha fun x B' _ h => by cases h; exact evr_now (fun H _ Q q => ⟨i, rfl, q⟩) rfl
theorem evv_isN {r : R2} (hr : ∀ x H Q, Q (.bl (decide (x = .non))) H → r x .non H Q) (ha : EvV ta σ B x) : EvV (tOp r ta (tC .non)) σ B (.bl (decide (x = .non))) := evv_op ha evv_c fun B' _ => evr_now (fun H _ Q q => hr x H Q q) rfl
/-! tests -/
theorem evt_val (h : EvV te σ B (.bl b)) : EvT (tB te) σ B b := fun H bh Q q => h H bh _ fun v B' H' g p => ⟨b, p, q B' H' g⟩
theorem evt_test (h : EvV te σ B (.bl b)) : EvT (tTest te) σ B b := fun H bh Q q => h H bh _ fun v B' H' g p => ⟨b, p, q B' H' g⟩
theorem evt_yes : EvT tYes σ B true := fun H bh Q q => q B H (Grow.refl bh)
theorem evt_not (h : EvT t σ B b) : EvT (tNot t) σ B (!b) := fun H bh Q q => h H bh _ fun B' H' g => q B' H' g
theorem evt_and (h : EvT t σ B b) (k : b = true → EvT u σ B c) : EvT (tAnd t u) σ B (b && c) := fun H bh Q q => h H bh _ fun B1 H1 g => by
  cases b with
  | false => exact iteF' (q B1 H1 g)
  | true => exact iteT' ((k rfl).mono g.b H1 g.bh Q fun B2 H2 g2 => q B2 H2 (g.trans g2))
where
  iteF' {A C : Prop} (h : C) : if false = true then A else C := by rw [if_neg Bool.false_ne_true]; exact h
  iteT' {A C : Prop} (h : A) : if true = true then A else C := by rw [if_pos rfl]; exact h
theorem evt_or (h : EvT t σ B b) (k : b = false → EvT u σ B c) : EvT (tOr t u) σ B (b || c) := fun H bh Q q => h H bh _ fun B1 H1 g => by
  cases b with
  | true => exact iteT (q B1 H1 g)
  | false => exact iteF ((k rfl).mono g.b H1 g.bh Q fun B2 H2 g2 => q B2 H2 (g.trans g2))
theorem evt_eq (h : EvT t σ B b) (e : b = c) : EvT t σ B c := e ▸ h
theorem evv_cast (h : EvV te σ B x) (e : x = y) : EvV te σ B y := e ▸ h
/-- a and b, a or b as truth values -/
theorem evv_and (ha : EvV ta σ B (.bl b)) (hb : b = true → EvV tb σ B (.bl c)) : EvV (tAndV ta tb) σ B (.bl (b && c)) := fun H bh Q q => ha H bh _ fun v B1 H1 g p => ⟨b, p, by
  cases b with
  | false => exact iteF (q _ B1 H1 g rfl)
  | true => exact iteT ((hb rfl).mono g.b H1 g.bh Q fun v B2 H2 g2 p => q v B2 H2 (g.trans g2) p)⟩
theorem evv_or (ha : EvV ta σ B (.bl b)) (hb : b = false → EvV tb σ B (.bl c)) : EvV (tOrV ta tb) σ B (.bl (b || c)) := fun H bh Q q => ha H bh _ fun v B1 H1 g p => ⟨b, p, by
  cases b with
  | true => exact iteT (q _ B1 H1 g rfl)
  | false => exact iteF ((hb rfl).mono g.b H1 g.bh Q fun v B2 H2 g2 p => q v B2 H2 (g.trans g2) p)⟩
theorem evv_not (ha : EvV ta σ B (.bl b)) : EvV (tNotV ta) σ B (.bl (!b)) := fun H bh Q q => ha H bh _ fun v B1 H1 g p => ⟨b, p, q _ B1 H1 g rfl⟩
/-- a if t else b -/
theorem evp_if [Mono P] (h : EvT t σ B b) (h1 : b = true → EvP ta σ B P) (h2 : b = false → EvP tb σ B P) : EvP (tIf t ta tb) σ B P := fun H bh Q q => h H bh _ fun B1 H1 g => by
  cases b with
  | true => exact iteT ((h1 rfl).mono g.b H1 g.bh Q fun v B2 H2 g2 p => q v B2 H2 (g.trans g2) p)
  | false => exact iteF ((h2 rfl).mono g.b H1 g.bh Q fun v B2 H2 g2 p => q v B2 H2 (g.trans g2) p)
theorem evv_if (h : EvT t σ B b) (h1 : b = true → EvV ta σ B x) (h2 : b = false → EvV tb σ B y) : EvV (tIf t ta tb) σ B (if b then x else y) :=
  evp_if h (fun e => by rw [e]; exact h1 e) (fun e => by rw [e]; exact h2 e)
/-- x < y < z -/
theorem evv_chain {r r' : R2} {tc : TE} {z : V} {k l : Bool} (ha : EvV ta σ B x) (hb : EvV tb σ B y) (h1 : ∀ B', Ex B B' → EvR (r x y) B' (Is (.bl k))) (hc : k = true → EvV tc σ B z) (h2 : ∀ B', Ex B B' → EvR (r' y z) B' (Is (.bl l))) : EvV (tChain r r' ta tb tc) σ B (.bl (k && l)) := fun H bh Q q =>
  ha H bh _ fun x' B1 H1 g1 p1 => hb.mono g1.b H1 g1.bh _ fun y' B2 H2 g2 p2 => by
    cases p1; cases p2
    refine h1 B2 (g1.b.trans g2.b) H2 g2.bh _ fun v B3 H3 g3 p3 => ⟨k, p3, ?_⟩
    have g := (g1.trans g2).trans g3
    cases k with
    | false => exact iteF (q _ B3 H3 g rfl)
    | true => exact iteT ((hc rfl).mono g.b H3 g.bh _ fun z' B4 H4 g4 p4 => by
        cases p4
        exact h2 B4 (g.b.trans g4.b) H4 g4.bh _ fun v B5 H5 g5 p5 => by cases p5; exact q _ B5 H5 ((g.trans g4).trans g5) rfl)
end
/-! ### 3. argument lists, displays, fields, calls -/
section
variable {K : PySem.W.Frag} {te ta tb : TE} {t u : TT} {tr : TA} {σ : St} {B B1 : Hp} {P Pa Pb : Hp → V → Prop} {A : Hp → List V → Prop} {x y z v : V} {vs : List V} {a C dx : Addr} {fs : List (Str × V)} {f : Str}
abbrev Iss (vs : List V) : Hp → List V → Prop := fun _ ws => ws = vs
instance {vs : List V} : Mono (Iss vs) := ⟨fun _ h => h⟩
def ConsP (P : Hp → V → Prop) (A : Hp → List V → Prop) : Hp → List V → Prop := fun B vs => ∃ v r, vs = v :: r ∧ P B v ∧ A B r
instance [Mono P] [Mono A] : Mono (ConsP P A) := ⟨fun e ⟨v, r, h, p, q⟩ => ⟨v, r, h, Mono.up e p, Mono.up e q⟩⟩
theorem eva_nil : EvA tNil σ B (Iss []) := fun H bh Q q => q [] B H (Grow.refl bh) rfl
theorem eva_cons [Mono P] (h : EvP te σ B P) (k : ∀ B', Ex B B' → EvA tr σ B' A) : EvA (tCons te tr) σ B (ConsP P A) := fun H bh Q q => h H bh _ fun v B1 H1 g1 p => k B1 g1.b H1 g1.bh _ fun vs B2 H2 g2 p2 => q _ B2 H2 (g1.trans g2) ⟨v, vs, rfl, Mono.up g2.b p, p2⟩
theorem EvA.mono [Mono A] (h : EvA tr σ B A) (e : Ex B B1) : EvA tr σ B1 A := fun H bh Q q => h H (e.trans bh) Q fun v B' H' g p =>
  let ⟨g1, e1⟩ := g.widen e bh
  q v _ H' g1 (Mono.up e1 p)
theorem EvA.imp {A' : Hp → List V → Prop} (h : EvA tr σ B A) (i : ∀ B' vs, Ex B B' → A B' vs → A' B' vs) : EvA tr σ B A' := fun H bh Q q => h H bh Q fun v B' H' g p => q v B' H' g (i B' v g.b p)
theorem evas_cons (h : EvV te σ B x) (k : EvA tr σ B (Iss vs)) : EvA (tCons te tr) σ B (Iss (x :: vs)) := EvA.imp (eva_cons h fun B' e => k.mono e) fun B' ws _ ⟨v, r, h1, h2, h3⟩ => by cases h2; cases h3; exact h1
/-- an attribute of an instance that stands for good -/
theorem evp_fld (h : EvV te σ B (.ref a)) (ha : B a = some (.ins C dx fs)) (c : Cls K C) (n : NoAttr K C f) (l : fs.lookup f = some v) (p : P B v) [Mono P] : EvP (tFld K te f) σ B P := fun H bh Q q => h H bh _ fun w B1 H1 g pw =>
  ⟨a, C, dx, fs, v, pw, g.bh _ _ (g.b _ _ ha), c, n, l, q v B1 H1 g (Mono.up g.b p)⟩
theorem evv_fld (h : EvV te σ B (.ref a)) (ha : B a = some (.ins C dx fs)) (c : Cls K C) (n : NoAttr K C f) (l : fs.lookup f = some v) : EvV (tFld K te f) σ B v := evp_fld h ha c n l rfl
/-- what a pure def promises: R tells, of its arguments, what it gives -/
def Pure (R : Hp → List V → (Hp → V → Prop) → Prop) : Sp := fun vs H Q _ => ∃ B P, Ex B H ∧ R B vs P ∧ ∀ v B' H', Grow B H B' H' → P B' v → Q v H'
theorem evp_call {R : Hp → List V → (Hp → V → Prop) → Prop} {E : XK} (h : EvA tr σ B A) (k : ∀ B' vs, Ex B B' → A B' vs → R B' vs P) : EvP (tCall (Pure R) [] E tr) σ B P := fun H bh Q q => h H bh _ fun vs B1 H1 g p =>
  ⟨B1, P, g.bh, by rw [List.append_nil]; exact k B1 vs g.b p, fun v B2 H2 g2 p2 => q v B2 H2 (g.trans g2) p2⟩
theorem evp_callD {R : Hp → List V → (Hp → V → Prop) → Prop} {E : XK} {dvs : List V} (h : EvA tr σ B A) (k : ∀ B' vs, Ex B B' → A B' vs → R B' (vs ++ dvs) P) : EvP (tCall (Pure R) dvs E tr) σ B P := fun H bh Q q => h H bh _ fun vs B1 H1 g p =>
  ⟨B1, P, g.bh, k B1 vs g.b p, fun v B2 H2 g2 p2 => q v B2 H2 (g.trans g2) p2⟩
theorem evp_meth {R : Hp → List V → (Hp → V → Prop) → Prop} {E : XK} {dvs : List V} {m : Str} (ho : EvV te σ B (.ref a)) (ha : B a = some (.ins C dx fs)) (l : fs.lookup m = none) (h : EvA tr σ B A) [Mono A] (k : ∀ B' vs, Ex B B' → A B' vs → R B' (.ref a :: (vs ++ dvs)) P) :
    EvP (tMeth C m (Pure R) dvs E te tr) σ B P := fun H bh Q q => ho H bh _ fun w B1 H1 g1 p1 => by
  cases p1
  exact ⟨a, dx, fs, rfl, g1.bh _ _ (g1.b _ _ ha), l, h.mono g1.b H1 g1.bh _ fun vs B2 H2 g2 p2 => ⟨B2, P, g2.bh, k B2 vs (g1.b.trans g2.b) p2, fun v B3 H3 g3 p3 => q v B3 H3 ((g1.trans g2).trans g3) p3⟩⟩
/-- a built-in's call by values -/
theorem evp_cb {r : List V → Hp → VK → Prop} (h : EvA tr σ B A) (k : ∀ B' vs, Ex B B' → A B' vs → EvR (r vs) B' P) : EvP (tCB r tr) σ B P := fun H bh Q q => h H bh _ fun vs B1 H1 g p =>
  k B1 vs g.b p H1 g.bh Q fun v B2 H2 g2 p2 => q v B2 H2 (g.trans g2) p2
theorem evp_bm {T : String} {r : V → List V → Hp → VK → Prop} (ho : EvP te σ B Pa) [Mono Pa] [Mono A] (hty : ∀ B' x, Ex B B' → Pa B' x → ∀ H, Ex B' H → tyV K T x H) (h : EvA tr σ B A) (k : ∀ B' x vs, Ex B B' → Pa B' x → A B' vs → EvR (r x vs) B' P) : EvP (tBM K T r te tr) σ B P := fun H bh Q q =>
  ho H bh _ fun x B1 H1 g1 p1 => ⟨hty B1 x g1.b p1 H1 g1.bh, h.mono g1.b H1 g1.bh _ fun vs B2 H2 g2 p2 => k B2 x vs (g1.b.trans g2.b) (Mono.up g2.b p1) p2 H2 g2.bh Q fun v B3 H3 g3 p3 => q v B3 H3 ((g1.trans g2).trans g3) p3⟩
/-- displays -/
def IsL (K : PySem.W.Frag) (A : Hp → List V → Prop) : Hp → V → Prop := fun B v => ∃ p xs, v = .ref p ∧ B p = some (.lst xs) ∧ A B xs
def IsU (K : PySem.W.Frag) (A : Hp → List V → Prop) : Hp → V → Prop := fun B v => ∃ p xs, v = .ref p ∧ SqT K B p xs ∧ A B xs
instance [Mono A] : Mono (IsL K A) := ⟨fun e ⟨p, xs, h, s, q⟩ => ⟨p, xs, h, e _ _ s, Mono.up e q⟩⟩
instance [Mono A] : Mono (IsU K A) := ⟨fun e ⟨p, xs, h, s, q⟩ => ⟨p, xs, h, ex_t e s, Mono.up e q⟩⟩
theorem evp_tup [Mono A] (h : EvA tr σ B A) (hz : ∀ B' vs, A B' vs → vs.length ≤ sizeLine) : EvP (tTup tr) σ B (IsU K A) := fun H bh Q q => h H bh _ fun vs B1 H1 g p => ⟨hz _ _ p, fun l hl =>
  q _ _ _ (g.laid hl) ⟨l, vs, rfl, st_of upd_same, Mono.up (Ex.new g.bh.l (ex_none g.bh hl)) p⟩⟩
theorem evp_lst [Mono A] (h : EvA tr σ B A) (hz : ∀ B' vs, A B' vs → vs.length ≤ sizeLine) : EvP (tLst tr) σ B (IsL K A) := fun H bh Q q => h H bh _ fun vs B1 H1 g p => ⟨hz _ _ p, fun l hl =>
  q _ _ _ (g.laid hl) ⟨l, vs, rfl, upd_same, Mono.up (Ex.new g.bh.l (ex_none g.bh hl)) p⟩⟩
end
/-! ### 4. data -/
mutual
theorem dp_up {K : PySem.W.Frag} {B B' : Hp} (e : Ex B B') : ∀ {d : PyData} {v : V}, Dp K B v d → Dp K B' v d
  | .none, _, h => by cases h; exact .non
  | .bool b, _, h => by cases h; exact .bl b
  | .int i, _, h => by cases h; exact .int i
  | .str x, _, h => by cases h; exact .str x
  | .list ds, _, h => by cases h with | lst s a => exact .lst (ex_l e s) (dps_up e a)
  | .tuple ds, _, h => by cases h with | tup s a => exact .tup (ex_t e s) (dps_up e a)
  | .dict _, _, h => by cases h
theorem dps_up {K : PySem.W.Frag} {B B' : Hp} (e : Ex B B') : ∀ {ds : List PyData} {vs : List V}, DpAll K B vs ds → DpAll K B' vs ds
  | [], _, h => by cases h; exact .nil
  | d :: ds, _, h => by cases h with | cons h1 h2 => exact .cons (dp_up e h1) (dps_up e h2)
end
abbrev IsD (K : PySem.W.Frag) (d : PyData) : Hp → V → Prop := fun B v => Dp K B v d
abbrev IsDs (K : PySem.W.Frag) (ds : List PyData) : Hp → List V → Prop := fun B vs => DpAll K B vs ds
instance {K : PySem.W.Frag} {d : PyData} : Mono (IsD K d) := ⟨fun e h => dp_up e h⟩
instance {K : PySem.W.Frag} {ds : List PyData} : Mono (IsDs K ds) := ⟨fun e h => dps_up e h⟩
abbrev EvD (K : PySem.W.Frag) (te : TE) (σ : St) (B : Hp) (d : PyData) : Prop := EvP te σ B (IsD K d)
abbrev EvDs (K : PySem.W.Frag) (t : TA) (σ : St) (B : Hp) (ds : List PyData) : Prop := EvA t σ B (IsDs K ds)
theorem DpAll.len {K : PySem.W.Frag} {B : Hp} : ∀ {ds : List PyData} {vs : List V}, DpAll K B vs ds → vs.length = ds.length
  | [], _, h => by cases h; rfl
  | d :: ds, _, h => by cases h with | cons h1 h2 => exact congrArg Nat.succ (DpAll.len h2)
theorem DpAll.get {K : PySem.W.Frag} {B : Hp} : ∀ {ds : List PyData} {vs : List V} {i : Nat} {d : PyData}, DpAll K B vs ds → ds[i]? = some d → ∃ v, vs[i]? = some v ∧ Dp K B v d
  | _, _, 0, _, .cons h1 h2, e => by cases e; exact ⟨_, rfl, h1⟩
  | _, _, i + 1, _, .cons h1 h2, e => DpAll.get (i := i) h2 e
  | _, _, _, _, .nil, e => by cases e
theorem DpAll.getV {K : PySem.W.Frag} {B : Hp} : ∀ {ds : List PyData} {vs : List V} {i : Nat} {v : V}, DpAll K B vs ds → vs[i]? = some v → ∃ d, ds[i]? = some d ∧ Dp K B v d
  | _, _, 0, _, .cons h1 h2, e => by cases e; exact ⟨_, rfl, h1⟩
  | _, _, i + 1, _, .cons h1 h2, e => DpAll.getV (i := i) h2 e
  | _, _, _, _, .nil, e => by cases e
theorem DpAll.app {K : PySem.W.Frag} {B : Hp} : ∀ {ds es : List PyData} {vs us : List V}, DpAll K B vs ds → DpAll K B us es → DpAll K B (vs ++ us) (ds ++ es)
  | _, _, _, _, .nil, h => h
  | _, _, _, _, .cons h1 h2, h => .cons h1 (DpAll.app h2 h)
theorem DpAll.one {K : PySem.W.Frag} {B : Hp} {v : V} {d : PyData} (h : Dp K B v d) : DpAll K B [v] [d] := .cons h .nil
section
variable {K : PySem.W.Frag} {te ta tb : TE} {t u : TT} {tr : TA} {σ : St} {B B1 : Hp} {d e : PyData} {ds : List PyData} {i : Int} {x : Str} {b : Bool}
theorem evd_int (h : EvV te σ B (.int i)) : EvD K te σ B (.int i) := h.imp fun _ _ _ e => by cases e; exact .int i
theorem evd_str (h : EvV te σ B (.str x)) : EvD K te σ B (.str x) := h.imp fun _ _ _ e => by cases e; exact .str x
theorem evd_bl (h : EvV te σ B (.bl b)) : EvD K te σ B (.bool b) := h.imp fun _ _ _ e => by cases e; exact .bl b
theorem evd_non (h : EvV te σ B .non) : EvD K te σ B .none := h.imp fun _ _ _ e => by cases e; exact .non
theorem evd_var {j : Nat} {v : V} (h : σ[j]? = some (some v)) (p : Dp K B v d) : EvD K (tVar j) σ B d := evp_var h p
theorem evds_nil : EvDs K tNil σ B [] := eva_nil.imp fun _ _ _ e => by cases e; exact .nil
theorem evds_cons (h : EvD K te σ B d) (k : EvDs K tr σ B ds) : EvDs K (tCons te tr) σ B (d :: ds) := EvA.imp (eva_cons h fun B' e => k.mono e) fun B' ws _ ⟨v, r, h1, h2, h3⟩ => by cases h1; exact .cons h2 h3
theorem evd_tup (h : EvDs K tr σ B ds) (hz : ds.length ≤ 100000 := by simp) : EvD K (tTup tr) σ B (.tuple ds) := EvP.imp (evp_tup (K := K) h fun B' vs p => by rw [DpAll.len p]; exact Evl.sz_of hz) fun B' v _ ⟨p, xs, h1, h2, h3⟩ => by cases h1; exact .tup h2 h3
theorem evd_lst (h : EvDs K tr σ B ds) (hz : ds.length ≤ 100000 := by simp) : EvD K (tLst tr) σ B (.list ds) := EvP.imp (evp_lst (K := K) h fun B' vs p => by rw [DpAll.len p]; exact Evl.sz_of hz) fun B' v _ ⟨p, xs, h1, h2, h3⟩ => by cases h1; exact .lst (sq_of h2) h3
theorem evd_if (h : EvT t σ B b) (h1 : b = true → EvD K ta σ B d) (h2 : b = false → EvD K tb σ B e) : EvD K (tIf t ta tb) σ B (if b then d else e) :=
  evp_if h (fun z => by rw [z]; exact h1 z) (fun z => by rw [z]; exact h2 z)
theorem evd_ixT {n : Nat} (ha : EvD K ta σ B (.tuple ds)) (hb : EvV tb σ B (.int (n : Int))) (hd : ds[n]? = some d) : EvD K (tOp (rIxT K) ta tb) σ B d := evp_op ha (fun B' e => hb.mono e) fun x y B' e h1 h2 => by
  cases h2
  cases h1 with
  | tup hs hall =>
    obtain ⟨v, hv, hd'⟩ := DpAll.get hall hd
    refine evr_now (v := v) (fun H bh Q q => ⟨_, _, _, v, rfl, rfl, ex_t bh hs, ?_, q⟩) hd'
    unfold atI
    have hn : n < _ := (List.getElem?_eq_some_iff.mp hv).1
    rw [Evl.ixN_nat hn]
    exact hv
theorem evd_ixL {n : Nat} (ha : EvD K ta σ B (.list ds)) (hb : EvV tb σ B (.int (n : Int))) (hd : ds[n]? = some d) : EvD K (tOp (rIxL K) ta tb) σ B d := evp_op ha (fun B' e => hb.mono e) fun x y B' e h1 h2 => by
  cases h2
  cases h1 with
  | lst hs hall =>
    obtain ⟨v, hv, hd'⟩ := DpAll.get hall hd
    refine evr_now (v := v) (fun H bh Q q => ⟨_, _, _, v, rfl, rfl, ex_l bh hs, ?_, q⟩) hd'
    unfold atI
    have hn : n < _ := (List.getElem?_eq_some_iff.mp hv).1
    rw [Evl.ixN_nat hn]
    exact hv
theorem evv_ofD_int (h : EvD K te σ B (.int i)) : EvV te σ B (.int i) := h.imp fun _ _ _ e => by cases e; rfl
theorem evv_ofD_str (h : EvD K te σ B (.str x)) : EvV te σ B (.str x) := h.imp fun _ _ _ e => by cases e; rfl
theorem evv_ofD_bl (h : EvD K te σ B (.bool b)) : EvV te σ B (.bl b) := h.imp fun _ _ _ e => by cases e; rfl
theorem evd_eq (ha : EvD K ta σ B d) (hb : EvD K tb σ B e) (sd : SeqAt.shaped d = true) (se : SeqAt.shaped e = true) : EvV (tOp (rEqD K) ta tb) σ B (.bl (PyData.eqv d e)) := evp_op ha (fun B' e => hb.mono e) fun x y B' _ h1 h2 =>
  evr_now (fun H bh Q q => ⟨d, e, dp_up bh h1, dp_up bh h2, sd, se, q⟩) rfl
theorem evd_ne (ha : EvD K ta σ B d) (hb : EvD K tb σ B e) (sd : SeqAt.shaped d = true) (se : SeqAt.shaped e = true) : EvV (tOp (rNeD K) ta tb) σ B (.bl (!PyData.eqv d e)) := evp_op ha (fun B' e => hb.mono e) fun x y B' _ h1 h2 =>
  evr_now (fun H bh Q q => ⟨d, e, dp_up bh h1, dp_up bh h2, sd, se, q⟩) rfl
end
end
end Pw

set_option Elab.async false
set_option linter.all false
set_option maxRecDepth 100000
set_option maxHeartbeats 2000000
namespace Pw
open PySem PySem.Spec L2
open PyProof.Rows hiding St
open Evl (sq_of st_of)
variable [Tbs]
/-! ### 5. targets -/
def EvG (g : TG) (v : V) (σ : St) (B : Hp) (σ' : St) : Prop := ∀ H, Ex B H → ∀ Q : St → Hp → Prop, Q σ' H → g v σ H Q
def EvGs (g : TGs) (vs : List V) (σ : St) (B : Hp) (σ' : St) : Prop := ∀ H, Ex B H → ∀ Q : St → Hp → Prop, Q σ' H → g vs σ H Q
section
variable {K : PySem.W.Frag} {g : TG} {gs : TGs} {v : V} {vs xs : List V} {σ σ1 σ2 : St} {B B' : Hp} {a : Addr} {n i : Nat}
theorem evg_name : EvG (gName i) v σ B (σ.set i (some v)) := fun H _ Q q => q
theorem evgs_nil : EvGs gNil [] σ B σ := fun H _ Q q => ⟨rfl, q⟩
theorem evgs_cons (h : EvG g v σ B σ1) (k : EvGs gs vs σ1 B σ2) : EvGs (gCons g gs) (v :: vs) σ B σ2 := fun H bh Q q => ⟨v, vs, rfl, h H bh _ (k H bh Q q)⟩
theorem evg_tup (s : SqT K B a xs) (e : xs.length = n) (h : EvGs gs xs σ B σ1) : EvG (gTup K n gs) (.ref a) σ B σ1 := fun H bh Q q => ⟨a, xs, rfl, ex_t bh s, e, h H bh Q q⟩
theorem EvG.mono (h : EvG g v σ B σ1) (e : Ex B B') : EvG g v σ B' σ1 := fun H bh Q q => h H (e.trans bh) Q q
end
/-- a plain value's data -/
def vD : V → PyData
  | .non => .none | .bl b => .bool b | .int i => .int i | .str x => .str x | _ => .none
def plainV : V → Bool
  | .non => true | .bl _ => true | .int _ => true | .str _ => true | _ => false
theorem dp_vD {K : PySem.W.Frag} {B : Hp} : ∀ {v : V}, plainV v = true → Dp K B v (vD v)
  | .non, _ => .non | .bl b, _ => .bl b | .int i, _ => .int i | .str x, _ => .str x
theorem dp_vD_inj {K : PySem.W.Frag} {B : Hp} : ∀ {v u : V}, plainV v = true → Dp K B u (vD v) → u = v
  | .non, _, _, h => by cases h; rfl
  | .bl b, _, _, h => by cases h; rfl
  | .int i, _, _, h => by cases h; rfl
  | .str x, _, _, h => by cases h; rfl
theorem dps_vD_inj {K : PySem.W.Frag} {B : Hp} : ∀ {vs us : List V}, vs.all plainV = true → DpAll K B us (vs.map vD) → us = vs
  | [], _, _, h => by cases h; rfl
  | v :: vs, _, p, h => by
    simp only [List.all_cons, Bool.and_eq_true] at p
    cases h with
    | cons h1 h2 => rw [dp_vD_inj p.1 h1, dps_vD_inj p.2 h2]
theorem dps_vD {K : PySem.W.Frag} {B : Hp} : ∀ {vs : List V}, vs.all plainV = true → DpAll K B vs (vs.map vD)
  | [], _ => .nil
  | v :: vs, p => by
    simp only [List.all_cons, Bool.and_eq_true] at p
    exact .cons (dp_vD p.1) (dps_vD p.2)
/-- a tuple of plain values -/
theorem dp_tup {K : PySem.W.Frag} {B : Hp} {v : V} (vs : List V) (h : Dp K B v (.tuple (vs.map vD))) (p : vs.all plainV = true := by rfl) : ∃ a, v = .ref a ∧ SqT K B a vs := by
  cases h with
  | tup s h => exact ⟨_, rfl, dps_vD_inj p h ▸ s⟩
theorem dp_of_tup {K : PySem.W.Frag} {B : Hp} {a : Addr} (vs : List V) (s : SqT K B a vs) (p : vs.all plainV = true := by rfl) : Dp K B (.ref a) (.tuple (vs.map vD)) := .tup s (dps_vD p)
theorem dp_tupD {K : PySem.W.Frag} {B : Hp} {v : V} {ds : List PyData} (h : Dp K B v (.tuple ds)) : ∃ a xs, v = .ref a ∧ SqT K B a xs ∧ DpAll K B xs ds := by
  cases h with
  | tup s h => exact ⟨_, _, rfl, s, h⟩
theorem dp_lstD {K : PySem.W.Frag} {B : Hp} {v : V} {ds : List PyData} (h : Dp K B v (.list ds)) : ∃ a xs, v = .ref a ∧ SqL K B a xs ∧ DpAll K B xs ds := by
  cases h with
  | lst s h => exact ⟨_, _, rfl, s, h⟩

/-! ### 6. pairs of lists -/
abbrev Rl (α : Type) := Hp → V → α → Prop
class MonoR {α : Type} (R : Rl α) : Prop where
  up : ∀ {B B' : Hp} {v : V} {a : α}, Ex B B' → R B v a → R B' v a
/-- it stands for a -/
def IsR {α : Type} (R : Rl α) (a : α) : Hp → V → Prop := fun B v => R B v a
instance {α : Type} {R : Rl α} [MonoR R] {a : α} : Mono (IsR R a) := ⟨fun e h => MonoR.up (R := R) e h⟩
def Items {α : Type} (R : Rl α) (as : List α) : Hp → List V → Prop := fun B xs => Paired (R B) xs as
instance {α : Type} {R : Rl α} [MonoR R] {as : List α} : Mono (Items R as) := ⟨fun e h => Paired.mapP h fun _ _ r => MonoR.up e r⟩
abbrev DR {α : Type} (K : PySem.W.Frag) (f : α → PyData) : Rl α := fun B v a => Dp K B v (f a)
instance {α : Type} {K : PySem.W.Frag} {f : α → PyData} : MonoR (DR K f) := ⟨fun e h => dp_up e h⟩
/-- values themselves -/
abbrev VR {α : Type} (f : α → V) : Rl α := fun _ v a => v = f a
instance {α : Type} {f : α → V} : MonoR (VR f) := ⟨fun _ h => h⟩
theorem paired_len {α β : Type} {F : α → β → Prop} : ∀ {xs : List α} {ys : List β}, Paired F xs ys → xs.length = ys.length := fun h => Paired.length h
theorem paired_get {α β : Type} {F : α → β → Prop} : ∀ {xs : List α} {ys : List β} {i : Nat} {x : α}, Paired F xs ys → xs[i]? = some x → ∃ y, ys[i]? = some y ∧ F x y
  | _, _, 0, _, .cons h _, e => by cases e; exact ⟨_, rfl, h⟩
  | _, _, i + 1, _, .cons _ t, e => paired_get (i := i) t e
  | _, _, _, _, .nil, e => by cases e
theorem paired_get' {α β : Type} {F : α → β → Prop} : ∀ {xs : List α} {ys : List β} {i : Nat} {y : β}, Paired F xs ys → ys[i]? = some y → ∃ x, xs[i]? = some x ∧ F x y
  | _, _, 0, _, .cons h _, e => by cases e; exact ⟨_, rfl, h⟩
  | _, _, i + 1, _, .cons _ t, e => paired_get' (i := i) t e
  | _, _, _, _, .nil, e => by cases e
theorem paired_app {α β : Type} {F : α → β → Prop} : ∀ {xs us : List α} {ys ws : List β}, Paired F xs ys → Paired F us ws → Paired F (xs ++ us) (ys ++ ws)
  | _, _, _, _, .nil, h => h
  | _, _, _, _, .cons h t, k => .cons h (paired_app t k)
theorem dps_items {α : Type} {K : PySem.W.Frag} {f : α → PyData} {B : Hp} : ∀ {xs : List V} {as : List α}, Items (DR K f) as B xs → DpAll K B xs (as.map f)
  | _, _, .nil => .nil
  | _, _, .cons h t => .cons h (dps_items t)
theorem items_dps {α : Type} {K : PySem.W.Frag} {f : α → PyData} {B : Hp} : ∀ {as : List α} {xs : List V}, DpAll K B xs (as.map f) → Items (DR K f) as B xs
  | [], _, h => by cases h; exact .nil
  | a :: as, _, h => by cases h with | cons h1 h2 => exact .cons h1 (items_dps h2)
theorem items_vals {α : Type} {f : α → V} {B : Hp} : ∀ {xs : List V} {as : List α}, Items (VR f) as B xs → xs = as.map f
  | _, _, .nil => rfl
  | _, _, .cons h t => by rw [List.map_cons, ← items_vals t, ← h]
theorem vals_items {α : Type} {f : α → V} {B : Hp} : ∀ {as : List α}, Items (VR f) as B (as.map f)
  | [] => .nil
  | a :: as => .cons rfl vals_items
section
variable {K : PySem.W.Frag} {α β : Type} {R : Rl α} {S : Rl β} {te tl : TE} {tt : TT} {g : TG} {σ : St} {B B' : Hp} {vs : List Nat} {as : List α}
/-- a list of such things -/
abbrev LsOf (K : PySem.W.Frag) (R : Rl α) (as : List α) : Hp → V → Prop := IsL K (Items R as)
abbrev TsOf (K : PySem.W.Frag) (R : Rl α) (as : List α) : Hp → V → Prop := IsU K (Items R as)
theorem lsOf_d {f : α → PyData} {v : V} (h : LsOf K (DR K f) as B v) : Dp K B v (.list (as.map f)) := by
  obtain ⟨p, xs, rfl, s, q⟩ := h
  exact .lst (sq_of s) (dps_items q)
theorem tsOf_d {f : α → PyData} {v : V} (h : TsOf K (DR K f) as B v) : Dp K B v (.tuple (as.map f)) := by
  obtain ⟨p, xs, rfl, s, q⟩ := h
  exact .tup s (dps_items q)
theorem d_tsOf {f : α → PyData} {v : V} (h : Dp K B v (.tuple (as.map f))) : TsOf K (DR K f) as B v := by
  obtain ⟨p, xs, rfl, s, q⟩ := dp_tupD h
  exact ⟨p, xs, rfl, s, items_dps q⟩
/-- the state of a comprehension behind i turns -/
structure LcSt (S : Rl β) (p : α → Bool) (e : α → β) (as : List α) (B0 H0 : Hp) (D : Addr) (i : Nat) (H : Hp) : Prop where
  ex : ∃ (B : Hp) (ys : List V), Grow B0 H0 B H ∧ Cell H0 B H D (.lst ys) ∧ Items S (((as.take i).filter p).map e) B ys
theorem filter_len_le {as : List α} {p : α → Bool} {e : α → β} {i : Nat} : (((as.take i).filter p).map e).length ≤ as.length := by
  rw [List.length_map]
  exact Nat.le_trans (List.length_filter_le _ _) (by rw [List.length_take]; omega)
theorem take_next {as : List α} {i : Nat} {a : α} (h : as[i]? = some a) : as.take (i + 1) = as.take i ++ [a] := by
  rw [List.take_add_one, h]; rfl
theorem filt_yes {as : List α} {p : α → Bool} {e : α → β} {i : Nat} {a : α} (h : as[i]? = some a) (hp : p a = true) : ((as.take (i + 1)).filter p).map e = ((as.take i).filter p).map e ++ [e a] := by
  rw [take_next h, List.filter_append, List.map_append, List.filter_cons, if_pos hp]; rfl
theorem filt_no {as : List α} {p : α → Bool} {e : α → β} {i : Nat} {a : α} (h : as[i]? = some a) (hp : p a = false) : ((as.take (i + 1)).filter p).map e = ((as.take i).filter p).map e := by
  rw [take_next h, List.filter_append, List.map_append, List.filter_cons, if_neg (by rw [hp]; exact Bool.false_ne_true)]
  exact List.append_nil _
/-- one turn -/
theorem lc_turn [MonoR S] {p : α → Bool} {e : α → β} {B0 H0 : Hp} {D : Addr} {i : Nat} {H : Hp} {x : V} {a : α} {σ1 : St} (hz : as.length ≤ 1000000) (hi : as[i]? = some a) (st : LcSt S p e as B0 H0 D i H) (hg : EvG g x (wipe σ vs) B0 σ1) (hw : wipe σ1 vs = wipe σ vs)
    (ht : EvT tt σ1 B0 (p a)) (he : p a = true → EvP te σ1 B0 fun B' v => S B' v (e a)) :
    g x (wipe σ vs) H fun σ2 H2 => wipe σ2 vs = wipe σ vs ∧ tt σ2 H2 fun b H3 => if b = true then te σ2 H3 fun y H4 => ∃ acc, H4 D = some (.lst acc) ∧ acc.length < sizeLine ∧ LcSt S p e as B0 H0 D (i + 1) (upd H4 D (.lst (acc ++ [y]))) else LcSt S p e as B0 H0 D (i + 1) H3 := by
  obtain ⟨B, ys, gr, c, it⟩ := st.ex
  refine hg H (gr.b.trans gr.bh) _ ⟨hw, ht.mono gr.b H gr.bh _ fun B1 H1 g1 => ?_⟩
  have c1 := c.grow g1
  have gr1 := gr.trans g1
  cases hp : p a with
  | false =>
    refine iteF ⟨B1, ys, gr1, c1, ?_⟩
    rw [filt_no hi hp]
    exact Mono.up g1.b it
  | true =>
    haveI : Mono (fun B' v => S B' v (e a)) := ⟨fun ee h => MonoR.up ee h⟩
    refine iteT ((he hp).mono gr1.b H1 gr1.bh _ fun y B2 H2 g2 sy => ⟨ys, (c1.grow g2).at_, ?_, ?_⟩)
    · have l : ys.length = _ := Paired.length it
      have := filter_len_le (as := as) (p := p) (e := e) (i := i)
      exact Nat.lt_of_le_of_lt (l ▸ Nat.le_trans this hz) (by decide)
    · have c2 := c1.grow g2
      refine ⟨B2, ys ++ [y], (gr1.trans g2).mut c2, c2.set, ?_⟩
      rw [filt_yes hi hp]
      exact paired_app (Mono.up (P := Items S _) (g1.b.trans g2.b) it) (.cons sy .nil)
theorem lc_end {p : α → Bool} {e : α → β} {B0 H0 : Hp} {D : Addr} {H : Hp} {Q : VK} (st : LcSt S p e as B0 H0 D as.length H) [MonoR S] (q : ∀ v B' H', Grow B0 H0 B' H' → LsOf K S ((as.filter p).map e) B' v → Q v H') : Q (.ref D) H := by
  obtain ⟨B, ys, gr, c, it⟩ := st.ex
  rw [List.take_length] at it
  exact q _ _ _ (gr.freeze c) ⟨D, ys, rfl, upd_same, Mono.up (P := Items S _) (Ex.new gr.bh.l c.nb) it⟩
/-- [e for x in xs if p], xs a list -/
theorem evp_lc [MonoR R] [MonoR S] (p : α → Bool) (e : α → β) (hl : EvP tl σ B (LsOf K R as)) (hz : as.length ≤ 1000000)
    (hs : ∀ B' x a, Ex B B' → a ∈ as → R B' x a → ∃ σ1, EvG g x (wipe σ vs) B' σ1 ∧ wipe σ1 vs = wipe σ vs ∧ EvT tt σ1 B' (p a) ∧ (p a = true → EvP te σ1 B' fun B' v => S B' v (e a))) :
    EvP (tLc (iList K tl) g tt te vs) σ B (LsOf K S ((as.filter p).map e)) := fun H bh Q q => hl H bh _ fun v B1 H1 g1 ⟨l, xs, ev, sl, it⟩ => by
  subst ev
  refine ⟨l, rfl, ⟨xs, ex_l g1.bh (sq_of sl)⟩, fun D hD => ?_⟩
  have len : xs.length = as.length := Paired.length it
  refine lc_list (xs := xs) (fun i H' => LcSt S p e as B1 H1 D i H') ⟨B1, [], (Grow.refl g1.bh).cell hD, Cell.mk' (Grow.refl g1.bh) hD, ?_⟩ (fun i H' _ st => ?_) (fun i x H' hi st => ?_) fun H' st => ?_
  · exact .nil
  · obtain ⟨B, ys, gr, c, _⟩ := st.ex
    exact ex_l (gr.b.trans gr.bh) (sq_of sl)
  · obtain ⟨a, ha, ra⟩ := paired_get it hi
    obtain ⟨σ1, h1, h2, h3, h4⟩ := hs B1 x a g1.b (List.mem_of_getElem? ha) ra
    exact lc_turn hz ha st h1 h2 h3 h4
  · rw [len] at st
    exact lc_end st fun v B' H' gr ls => q v B' H' (g1.trans gr) ls
/-- .. xs a tuple -/
theorem evp_lcT [MonoR R] [MonoR S] (p : α → Bool) (e : α → β) (hl : EvP tl σ B (TsOf K R as)) (hz : as.length ≤ 1000000)
    (hs : ∀ B' x a, Ex B B' → a ∈ as → R B' x a → ∃ σ1, EvG g x (wipe σ vs) B' σ1 ∧ wipe σ1 vs = wipe σ vs ∧ EvT tt σ1 B' (p a) ∧ (p a = true → EvP te σ1 B' fun B' v => S B' v (e a))) :
    EvP (tLc (iTup K tl) g tt te vs) σ B (LsOf K S ((as.filter p).map e)) := fun H bh Q q => hl H bh _ fun v B1 H1 g1 ⟨l, xs, ev, sl, it⟩ => by
  subst ev
  refine ⟨l, rfl, ⟨xs, ex_t g1.bh sl⟩, fun D hD => ?_⟩
  have len : xs.length = as.length := Paired.length it
  refine lc_tup (xs := xs) (fun i H' => LcSt S p e as B1 H1 D i H') ⟨B1, [], (Grow.refl g1.bh).cell hD, Cell.mk' (Grow.refl g1.bh) hD, ?_⟩ (fun i H' _ st => ?_) (fun i x H' hi st => ?_) fun H' st => ?_
  · exact .nil
  · obtain ⟨B, ys, gr, c, _⟩ := st.ex
    exact ex_t (gr.b.trans gr.bh) sl
  · obtain ⟨a, ha, ra⟩ := paired_get it hi
    obtain ⟨σ1, h1, h2, h3, h4⟩ := hs B1 x a g1.b (List.mem_of_getElem? ha) ra
    exact lc_turn hz ha st h1 h2 h3 h4
  · rw [len] at st
    exact lc_end st fun v B' H' gr ls => q v B' H' (g1.trans gr) ls
end
/-! ### 7. statements -/
def EvS (t : TS) (σ : St) (B : Hp) (P : Hp → V → Prop) (N : Hp → St → Prop) : Prop := ∀ H, Ex B H → ∀ D : Ends, (∀ v B' H', Grow B H B' H' → P B' v → D.rt v H') → (∀ σ' B' H', Grow B H B' H' → N B' σ' → D.nx σ' H') → t D σ H
section
variable {te : TE} {tt : TT} {tu tw tz : TS} {σ : St} {B B1 : Hp} {P Pa : Hp → V → Prop} {N N' : Hp → St → Prop} {b : Bool} {i : Nat} {v : V}
theorem EvS.mono [Mono P] [Mono N] (h : EvS tu σ B P N) (e : Ex B B1) : EvS tu σ B1 P N := fun H bh D r n => h H (e.trans bh) D
  (fun v B' H' g p => let ⟨g1, e1⟩ := g.widen e bh; r v _ H' g1 (Mono.up e1 p)) fun σ' B' H' g p => let ⟨g1, e1⟩ := g.widen e bh; n σ' _ H' g1 (Mono.up e1 p)
instance monoNon {α : Type} {P : Hp → V → Prop} [Mono P] {v : V} : Mono (fun (B : Hp) (_ : α) => P B v) := ⟨fun e h => Mono.up (P := P) e h⟩
abbrev NoN : Hp → St → Prop := fun _ _ => False
instance : Mono NoN := ⟨fun _ h => h⟩
theorem evs_ret (h : EvP te σ B P) : EvS (tRet te) σ B P N := fun H bh D r _ => h H bh _ r
theorem evs_next (h : N B σ) : EvS tNext σ B P N := fun H bh D _ n => n σ B H (Grow.refl bh) h
theorem evs_seq (h : EvS tu σ B P N) (k : ∀ σ' B', Ex B B' → N B' σ' → EvS tz σ' B' P N') : EvS (tSeq tu tz) σ B P N' := fun H bh D r n =>
  h H bh { D with nx := tz D } r fun σ' B' H' g nn => k σ' B' g.b nn H' g.bh D (fun v B'' H'' g' p => r v B'' H'' (g.trans g') p) fun σ'' B'' H'' g' p => n σ'' B'' H'' (g.trans g') p
theorem evs_asg (h : EvP te σ B Pa) (k : ∀ v B', Ex B B' → Pa B' v → EvS tz (σ.set i (some v)) B' P N) : EvS (tSeq (tAsg te (gName i)) tz) σ B P N := fun H bh D r n =>
  h H bh _ fun v B' H' g p => k v B' g.b p H' g.bh D (fun v B'' H'' g' p => r v B'' H'' (g.trans g') p) fun σ'' B'' H'' g' p => n σ'' B'' H'' (g.trans g') p
theorem evs_asgV (h : EvV te σ B v) (k : ∀ B', Ex B B' → EvS tz (σ.set i (some v)) B' P N) : EvS (tSeq (tAsg te (gName i)) tz) σ B P N := evs_asg h fun v' B' e p => by cases p; exact k B' e
theorem evs_asg1 (h : EvP te σ B Pa) (k : ∀ v B', Ex B B' → Pa B' v → N B' (σ.set i (some v))) : EvS (tAsg te (gName i)) σ B P N := fun H bh D r n => h H bh _ fun v B' H' g p => n _ B' H' g (k v B' g.b p)
/-- target of any form -/
theorem evs_tg {g : TG} (h : EvP te σ B Pa) (k : ∀ v B', Ex B B' → Pa B' v → ∃ σ1, EvG g v σ B' σ1 ∧ EvS tz σ1 B' P N) : EvS (tSeq (tAsg te g) tz) σ B P N := fun H bh D r n =>
  h H bh _ fun v B' H' gr p => by
    obtain ⟨σ1, h1, h2⟩ := k v B' gr.b p
    exact h1 H' gr.bh _ (h2 H' gr.bh D (fun v B'' H'' g' p => r v B'' H'' (gr.trans g') p) fun σ'' B'' H'' g' p => n σ'' B'' H'' (gr.trans g') p)
theorem evs_drop (h : EvP te σ B Pa) (k : ∀ v B', Ex B B' → Pa B' v → EvS tz σ B' P N) : EvS (tSeq (tDrop te) tz) σ B P N := fun H bh D r n =>
  h H bh _ fun v B' H' g p => k v B' g.b p H' g.bh D (fun v B'' H'' g' p => r v B'' H'' (g.trans g') p) fun σ'' B'' H'' g' p => n σ'' B'' H'' (g.trans g') p
theorem evs_if [Mono P] [Mono N] (h : EvT tt σ B b) (h1 : b = true → EvS tu σ B P N) (h2 : b = false → EvS tw σ B P N) : EvS (tIfS tt tu tw) σ B P N := fun H bh D r n => h H bh _ fun B' H' g => by
  cases b with
  | true => exact iteT ((h1 rfl).mono g.b H' g.bh D (fun v B'' H'' g' p => r v B'' H'' (g.trans g') p) fun σ'' B'' H'' g' p => n σ'' B'' H'' (g.trans g') p)
  | false => exact iteF ((h2 rfl).mono g.b H' g.bh D (fun v B'' H'' g' p => r v B'' H'' (g.trans g') p) fun σ'' B'' H'' g' p => n σ'' B'' H'' (g.trans g') p)
/-- if c: a block that returns; then the rest -/
theorem evs_when [Mono P] [Mono N] (h : EvT tt σ B b) (h1 : b = true → EvS tu σ B P NoN) (h2 : b = false → EvS tz σ B P N) : EvS (tSeq (tIfS tt tu tNext) tz) σ B P N := fun H bh D r n => h H bh _ fun B' H' g => by
  cases b with
  | true => exact iteT ((h1 rfl).mono g.b H' g.bh _ (fun v B'' H'' g' p => r v B'' H'' (g.trans g') p) fun _ _ _ _ z => z.elim)
  | false => exact iteF ((h2 rfl).mono g.b H' g.bh D (fun v B'' H'' g' p => r v B'' H'' (g.trans g') p) fun σ'' B'' H'' g' p => n σ'' B'' H'' (g.trans g') p)
/-- if c: what is not reached -/
theorem evs_unless [Mono P] [Mono N] (h : EvT tt σ B false) (h2 : EvS tz σ B P N) : EvS (tSeq (tIfS tt tu tNext) tz) σ B P N := fun H bh D r n => h H bh _ fun B' H' g => iteF (h2.mono g.b H' g.bh D (fun v B'' H'' g' p => r v B'' H'' (g.trans g') p) fun σ'' B'' H'' g' p => n σ'' B'' H'' (g.trans g') p)
theorem evs_unless1 [Mono P] (h : EvT tt σ B false) (h2 : ∀ B', Ex B B' → N B' σ) : EvS (tIfS tt tu tNext) σ B P N := fun H bh D r n => h H bh _ fun B' H' g => iteF (n σ B' H' g (h2 B' g.b))
end
/-! ### 8. defs -/
section
variable {P : Program} {w : World} {K : PySem.W.Frag} {mg : Str → Option Value} {base : Heap}
theorem pure_ok {x qual : Str} {st : Stmt} {f : Addr} {fd : FuncData} {N ps : List Str} {k : Nat} {R : Hp → List V → (Hp → V → Prop) → Prop} (F : Fun K x qual st f fd) (S : FnScope N ps (defScope st)) (len : ∀ B vs P', R B vs P' → vs.length = ps.length)
    (hbody : ∀ (cdv : Value) (A : Around) (outer : List Env) (s : Shared) (H0 : Hp) (E : XK), Room k (A.deeper (envOfC qual (defScope st) s.heap.objs.size f cdv)) →
      ∃ t, PSs (cxOf CX0 P w K mg base N qual (defScope st) f cdv A outer s H0 E).nox (defBody st) t ∧ ∀ B vs P', R B vs P' → EvS t (start N vs) B P' (fun B' _ => P' B' .non)) : FnOk P w K mg base CX0 (k + 1) f fd ps (Pure R) :=
  F.ok S (fun vs H Q E ⟨B, P', _, r, _⟩ => len B vs P' r) fun cdv A outer s H vs Q E hr ⟨B, P', bh, r, q⟩ => by
    obtain ⟨t, h1, h2⟩ := hbody cdv A outer s H E hr
    exact ⟨t, h1, h2 B vs P' r H bh _ (fun v B' H' g p => q v B' H' g p) fun σ' B' H' g p => q .non B' H' g p⟩
/-- the same of a def with defaults -/
theorem pureD_ok {x qual : Str} {params : Arguments} {body : List Stmt} {scope : Scope} {dvs : List V} {kws : List (Str × V)} {f : Addr} {fd : FuncData} {N ps : List Str} {k : Nat} {R : Hp → List V → (Hp → V → Prop) → Prop} (F : FunD K x qual params body scope dvs kws f fd) (S : FnScope N ps scope) (len : ∀ B vs P', R B vs P' → vs.length = ps.length)
    (hbody : ∀ (cdv : Value) (A : Around) (outer : List Env) (s : Shared) (H0 : Hp) (E : XK), Room k (A.deeper (envOfC qual scope s.heap.objs.size f cdv)) →
      ∃ t, PSs (cxOf CX0 P w K mg base N qual scope f cdv A outer s H0 E).nox body t ∧ ∀ B vs P', R B vs P' → EvS t (start N vs) B P' (fun B' _ => P' B' .non)) : FnOk P w K mg base CX0 (k + 1) f fd ps (Pure R) :=
  F.ok S (fun vs H Q E ⟨B, P', _, r, _⟩ => len B vs P' r) fun cdv A outer s H vs Q E hr ⟨B, P', bh, r, q⟩ => by
    obtain ⟨t, h1, h2⟩ := hbody cdv A outer s H E hr
    exact ⟨t, h1.nox, h2 B vs P' r H bh _ (fun v B' H' g p => q v B' H' g p) fun σ' B' H' g p => q .non B' H' g p⟩
end
end Pw

set_option Elab.async false
set_option linter.all false
set_option maxRecDepth 100000
set_option maxHeartbeats 2000000
namespace Pw
open PySem PySem.Spec PySem.W L2
open PyProof.Rows hiding St
open Evl (sq_of st_of)
variable [Tbs]
/-! ### 9. sorted, of data -/
def rSortedD (K : PySem.W.Frag) : List V → Hp → VK → Prop := fun vs H Q => ∃ (a : Addr) (xs : List V) (ds : List PyData) (W : V → PyData → Prop), vs = [.ref a] ∧ SqL K H a xs ∧ (∀ x d, W x d → Dp K H x d) ∧ Paired W xs ds ∧ AllAlike ds ∧ Sortable ds ∧ ds.length ≤ 1000000 ∧ (∀ d ∈ ds, d.depth ≤ 50) ∧
  ∀ p ys, H p = none → Paired W ys (ds.mergeSort (dataLe false id)) → Q (.ref p) (upd H p (.lst ys))
section
variable {X : Cx} {pins : List (Addr × Obj)} {σ : L2.St} {H : Hp} {s : Shared}
theorem each_dps (I : Inv X pins σ H s) {W : V → PyData → Prop} (hW : ∀ x d, W x d → Dp X.K H x d) : ∀ {ds : List PyData} {xs : List V} {us : List Value}, Paired W xs ds → Vals xs us → EachIs (fun v b => ∃ x, RelV x v ∧ W x b) us ds ∧ EachIs (fun v b => ∃ as, Reads s.heap v (id b) as) us ds
  | _, _, _, .nil, .nil => ⟨.nil, .nil⟩
  | _, _, _, .cons h1 h2, .cons r1 r2 =>
    let ⟨q1, q2⟩ := each_dps I hW h2 r2
    ⟨.cons ⟨_, r1, h1⟩ q1, .cons (Dp.reads I _ _ _ (hW _ _ h1) r1) q2⟩
theorem dps_each {W : V → PyData → Prop} : ∀ {ds : List PyData} {us : List Value}, EachIs (fun v b => ∃ x, RelV x v ∧ W x b) us ds → ∃ ys, Vals ys us ∧ Paired W ys ds
  | _, _, .nil => ⟨[], .nil, .nil⟩
  | _, _, .cons ⟨x, r, h⟩ t => by
    obtain ⟨ys, q1, q2⟩ := dps_each t
    exact ⟨x :: ys, .cons r q1, .cons h q2⟩
theorem call_sortedDat (hu : X.A.units + 64 < cLine) : CallR X (.builtin "sorted") (rSortedD X.K) := by
  intro pins s σ H vs us Q I r h
  obtain ⟨a, xs, ds, W, rfl, hs, hW, hd, hal, hk, hz, hdp, q⟩ := h
  obtain ⟨its, rv, hl, _⟩ := I.list hs
  rw [Vals.ref1 r]
  obtain ⟨e1, e2⟩ := each_dps I hW hd rv
  refine PySem.W.sorted_data (enc := id) (bs := ds) hl.isList e1 e2 (by rw [List.map_id]; exact hal) (by rw [List.map_id]; exact hk) (Nat.le_trans hz (by decide)) (fun b hb => ?_) fun out hlen ho => ?_
  · have := hdp b hb
    show X.A.units + 2 + b.depth < cLine
    omega
  · obtain ⟨ep, he'⟩ := PyProof.Rows.sortedAll_at s.heap its out.toArray
    obtain ⟨ys, v1, v2⟩ := dps_each ho
    have hlen2 : ys.length ≤ sizeLine := by
      rw [v1.length, hlen]
      exact Nat.le_trans hz (by decide)
    refine ⟨.ref _, upd H (s.heap.objs.size + 1) (.lst ys), I.laid (t' := s.toks) (fun _ _ => PyProof.Rows.sortedAll_old) (Nat.le_succ _) ⟨hlen2, out, ep, v1, he'⟩, rfl, q _ ys (I.hok.fresh (Nat.le_succ _)) v2⟩
end
/-- the sorted items -/
def srt {β : Type} (enc : β → PyData) (bs : List β) : List β := bs.mergeSort (dataLe false enc)
theorem srt_map {β : Type} (enc : β → PyData) (bs : List β) : (bs.map enc).mergeSort (dataLe false id) = (srt enc bs).map enc := (List.map_mergeSort (f := enc) (l := bs) (r := dataLe false enc) (s := dataLe false id) fun a _ b _ => rfl).symm
theorem paired_map {α β γ : Type} {F : α → β → Prop} {f : γ → β} : ∀ {xs : List α} {cs : List γ}, Paired F xs (cs.map f) → Paired (fun a c => F a (f c)) xs cs
  | _, [], .nil => .nil
  | _, c :: cs, .cons h t => .cons h (paired_map t)
theorem map_paired {α β γ : Type} {F : α → β → Prop} {f : γ → β} : ∀ {xs : List α} {cs : List γ}, Paired (fun a c => F a (f c)) xs cs → Paired F xs (cs.map f)
  | _, _, .nil => .nil
  | _, _, .cons h t => .cons h (map_paired t)
section
variable {K : PySem.W.Frag} {β : Type} {enc : β → PyData} {bs : List β} {ta tb : TE} {tr : TA} {σ : L2.St} {B : Hp} {P Pa : Hp → V → Prop}
theorem evp_sorted (h : EvP ta σ B (LsOf K (DR K enc) bs)) (hal : AllAlike (bs.map enc)) (hk : Sortable (bs.map enc)) (hz : bs.length ≤ 1000000) (hd : ∀ b ∈ bs, (enc b).depth ≤ 50) : EvP (tCB (rSortedD K) (tCons ta tNil)) σ B (LsOf K (DR K enc) (srt enc bs)) :=
  evp_cb (eva_cons h fun B' e => eva_nil) fun B' vs e ⟨v, r, h1, h2, h3⟩ => by
    cases h3
    subst h1
    obtain ⟨p, xs, rfl, s, it⟩ := h2
    refine fun H bh Q q => ⟨p, xs, bs.map enc, Dp K B', rfl, ex_l bh (sq_of s), fun x d h => dp_up bh h, map_paired it, hal, hk, by rw [List.length_map]; exact hz, fun d hd' => ?_, fun l ys hl dy => ?_⟩
    · obtain ⟨b, hb, rfl⟩ := List.mem_map.mp hd'
      exact hd b hb
    · rw [srt_map] at dy
      exact q _ _ _ ((Grow.refl bh).laid hl) ⟨l, ys, rfl, upd_same, Paired.mapP (paired_map dy) fun _ _ h => dp_up (Ex.new bh.l (ex_none bh hl)) h⟩
end
/-! ### 10. built-ins -/
section
variable {K : PySem.W.Frag} {ta tb tc : TE} {tr : TA} {σ : L2.St} {B : Hp} {P Pa : Hp → V → Prop} {x y : V} {i j : Int} {z : Str} {b : Bool}
theorem eva1 {A : Hp → List V → Prop} [Mono P] (h : EvP ta σ B P) : EvA (tCons ta tNil) σ B (fun B' vs => ∃ v, vs = [v] ∧ P B' v) := EvA.imp (eva_cons h fun B' e => eva_nil) fun B' vs _ ⟨v, r, h1, h2, h3⟩ => by cases h3; exact ⟨v, h1, h2⟩
/-- a built-in of one argument -/
theorem evp_cb1 {r : List V → Hp → VK → Prop} [Mono Pa] (h : EvP ta σ B Pa) (k : ∀ B' v, Ex B B' → Pa B' v → EvR (r [v]) B' P) : EvP (tCB r (tCons ta tNil)) σ B P :=
  evp_cb (eva1 (A := fun _ _ => True) h) fun B' vs e ⟨v, h1, h2⟩ => by subst h1; exact k B' v e h2
theorem evp_cbs {r : List V → Hp → VK → Prop} {vs : List V} (h : EvA tr σ B (Iss vs)) (k : ∀ B', Ex B B' → EvR (r vs) B' P) : EvP (tCB r tr) σ B P :=
  evp_cb h fun B' ws e h1 => by cases h1; exact k B' e
/-- isinstance(x, T), T a built-in type -/
theorem evv_isi {n m : String} (ha : EvV ta σ B x) (hb : EvV tb σ B (.ty n)) (ht : ∀ H, Ex B H → TyX K H x (.type m)) (hk : kitB m n = some b) : EvV (tCB (rIsi K) (tCons ta (tCons tb tNil))) σ B (.bl b) :=
  evp_cbs (evas_cons ha (evas_cons hb eva_nil)) fun B' e => evr_now (fun H bh Q q => ⟨x, .ty n, .type m, .type n, b, rfl, .ty n, ht H (e.trans bh), kit_ty hk, q⟩) rfl
theorem evv_max2 (ha : EvV ta σ B (.int i)) (hb : EvV tb σ B (.int j)) : EvV (tCB (fun xs H Q => ∃ i j, xs = [.int i, .int j] ∧ Q (.int (if j > i then j else i)) H) (tCons ta (tCons tb tNil))) σ B (.int (max i j)) :=
  evp_cbs (evas_cons ha (evas_cons hb eva_nil)) fun B' e => evr_now (fun H bh Q q => ⟨i, j, rfl, q⟩) (by
    show V.int _ = V.int _
    congr 1
    split <;> omega)
theorem evv_min2 (ha : EvV ta σ B (.int i)) (hb : EvV tb σ B (.int j)) : EvV (tCB (fun xs H Q => ∃ i j, xs = [.int i, .int j] ∧ Q (.int (if j < i then j else i)) H) (tCons ta (tCons tb tNil))) σ B (.int (min i j)) :=
  evp_cbs (evas_cons ha (evas_cons hb eva_nil)) fun B' e => evr_now (fun H bh Q q => ⟨i, j, rfl, q⟩) (by
    show V.int _ = V.int _
    congr 1
    split <;> omega)
theorem evv_len {n : Nat} [Mono Pa] (ha : EvP ta σ B Pa) (hl : ∀ B' v, Ex B B' → Pa B' v → ∀ H, Ex B' H → LenV K v H n) : EvV (tCB (fun xs H Q => ∃ x n, xs = [x] ∧ LenV K x H n ∧ Q (.int n) H) (tCons ta tNil)) σ B (.int n) :=
  evp_cb1 ha fun B' v e p => evr_now (fun H bh Q q => ⟨v, n, rfl, hl B' v e p H bh, q⟩) rfl
theorem lenV_str {H : Hp} (h : z.length ≤ 100000) : LenV K (.str z) H z.length := ⟨Evl.sz_of h, rfl⟩
theorem lenV_lst {H : Hp} {a : Addr} {xs : List V} (h : SqL K H a xs) : LenV K (.ref a) H xs.length := .inl ⟨xs, h, rfl⟩
theorem lenV_tup {H : Hp} {a : Addr} {xs : List V} (h : SqT K H a xs) : LenV K (.ref a) H xs.length := .inr ⟨xs, h, rfl⟩
theorem evv_all {bs : List Bool} (ha : EvP ta σ B (LsOf K (VR V.bl) bs)) : EvV (tCB (rAll K) (tCons ta tNil)) σ B (.bl (bs.all id)) :=
  evp_cb1 ha fun B' v e ⟨p, xs, h1, s, it⟩ => by
    subst h1
    rw [items_vals it] at s
    exact evr_now (fun H bh Q q => ⟨p, bs, rfl, ex_l bh (sq_of s), q⟩) rfl
theorem evv_any {bs : List Bool} (ha : EvP ta σ B (LsOf K (VR V.bl) bs)) : EvV (tCB (rAny K) (tCons ta tNil)) σ B (.bl (bs.any id)) :=
  evp_cb1 ha fun B' v e ⟨p, xs, h1, s, it⟩ => by
    subst h1
    rw [items_vals it] at s
    exact evr_now (fun H bh Q q => ⟨p, bs, rfl, ex_l bh (sq_of s), q⟩) rfl
/-- list(x) -/
theorem evp_listT {A : Hp → List V → Prop} [Mono A] (ha : EvP ta σ B (IsU K A)) : EvP (tCB (fun xs H Q => ∃ p ys, xs = [.ref p] ∧ (SqL K H p ys ∨ SqT K H p ys) ∧ ∀ l, H l = none → Q (.ref l) (upd H l (.lst ys))) (tCons ta tNil)) σ B (IsL K A) :=
  evp_cb1 ha fun B' v e ⟨p, xs, h1, s, it⟩ => by
    subst h1
    exact fun H bh Q q => ⟨p, xs, rfl, .inr (ex_t bh s), fun l hl => q _ _ _ ((Grow.refl bh).laid hl) ⟨l, xs, rfl, upd_same, Mono.up (Ex.new bh.l (ex_none bh hl)) it⟩⟩
theorem evp_listL {A : Hp → List V → Prop} [Mono A] (ha : EvP ta σ B (IsL K A)) : EvP (tCB (fun xs H Q => ∃ p ys, xs = [.ref p] ∧ (SqL K H p ys ∨ SqT K H p ys) ∧ ∀ l, H l = none → Q (.ref l) (upd H l (.lst ys))) (tCons ta tNil)) σ B (IsL K A) :=
  evp_cb1 ha fun B' v e ⟨p, xs, h1, s, it⟩ => by
    subst h1
    exact fun H bh Q q => ⟨p, xs, rfl, .inl (ex_l bh (sq_of s)), fun l hl => q _ _ _ ((Grow.refl bh).laid hl) ⟨l, xs, rfl, upd_same, Mono.up (Ex.new bh.l (ex_none bh hl)) it⟩⟩
/-- tuple(list) -/
theorem evp_tupL {A : Hp → List V → Prop} [Mono A] (ha : EvP ta σ B (IsL K A)) : EvP (tCB (fun xs H Q => ∃ p ys, xs = [.ref p] ∧ ((SqL K H p ys ∧ ∀ l, H l = none → Q (.ref l) (upd H l (.tup ys))) ∨ (SqT K H p ys ∧ Q (.ref p) H))) (tCons ta tNil)) σ B (IsU K A) :=
  evp_cb1 ha fun B' v e ⟨p, xs, h1, s, it⟩ => by
    subst h1
    exact fun H bh Q q => ⟨p, xs, rfl, .inl ⟨ex_l bh (sq_of s), fun l hl => q _ _ _ ((Grow.refl bh).laid hl) ⟨l, xs, rfl, st_of upd_same, Mono.up (Ex.new bh.l (ex_none bh hl)) it⟩⟩⟩
/-- x in xs, plain items -/
theorem evv_in {xs : List V} {neg : Bool} (ha : EvV ta σ B x) (hb : EvP tb σ B (IsL K (Iss xs))) (hx : flatV x = true) (hs : xs.all flatV = true) : EvV (tOp (rIn K neg) ta tb) σ B (.bl (if neg then !inV x xs else inV x xs)) :=
  evp_op ha (fun B' e => hb.mono e) fun x' y B' e h1 ⟨p, ys, h2, s, h3⟩ => by
    cases h1; cases h3; subst h2
    exact evr_now (fun H bh Q q => ⟨p, _, rfl, .inl (ex_l bh (sq_of s)), hx, hs, q⟩) rfl
/-- s + t, texts -/
theorem evv_cat {u v : Str} (ha : EvV ta σ B (.str u)) (hb : EvV tb σ B (.str v)) (h : u.length + v.length ≤ 100000) : EvV (tOp (fun x y H Q => ∃ i j, x = .str i ∧ y = .str j ∧ i.length + j.length ≤ sizeLine ∧ Q (.str (i ++ j)) H) ta tb) σ B (.str (u ++ v)) :=
  evv_op ha hb fun B' _ => evr_now (fun H _ Q q => ⟨u, v, rfl, rfl, Evl.sz_of h, q⟩) rfl
end
/-! ### 11. defs, methods, classes as they stand -/
section
variable (P : Program) (w : World) (K : PySem.W.Frag) (mg : Str → Option Value) (base : Heap)
structure Gf (k : Nat) (x : Str) (ps : List Str) (dvs : List V) (sp : Sp) : Prop where
  ex : ∃ f fd ds, FnOk P w K mg base CX0 k f fd ps sp ∧ mg x = some (.ref f) ∧ PySem.W.keepIn K (.ref f) = true ∧ Binds K fd ps ds ∧ Vals dvs ds
structure Gk (k : Nat) (x : Str) (ps : List Str) (n : Nat) (ks : List Str) (gV : List V → List V → List V) (sp : Sp) : Prop where
  ex : ∃ f fd g, FnOk P w K mg base CX0 k f fd ps sp ∧ mg x = some (.ref f) ∧ PySem.W.keepIn K (.ref f) = true ∧ KBn K fd ps n ks g gV
structure Gm (k : Nat) (C : Addr) (m : Str) (ps : List Str) (dvs : List V) (sp : Sp) : Prop where
  ex : ∃ f fd ds, FnOk P w K mg base CX0 k f fd ps sp ∧ Meth K C m f ∧ Binds K fd ps ds ∧ Vals dvs ds
structure Gc (k : Nat) (x : Str) (C : Addr) (ps : List Str) (dvs : List V) (sp : Sp) : Prop where
  ex : ∃ f fd ds, FnOk P w K mg base CX0 k f fd ps sp ∧ mg x = some (.ref C) ∧ Mk K C f ∧ Binds K fd ps ds ∧ Vals dvs ds
structure Gck (k : Nat) (x : Str) (C : Addr) (ps : List Str) (n : Nat) (ks : List Str) (gV : List V → List V → List V) (sp : Sp) : Prop where
  ex : ∃ f fd g, FnOk P w K mg base CX0 k f fd ps sp ∧ mg x = some (.ref C) ∧ Mk K C f ∧ KBn K fd ps (n + 1) ks g gV
end
section
variable {X : Cx} {k n : Nat} {x m : Str} {C : Addr} {ps ks : List Str} {dvs : List V} {sp : Sp} {gV : List V → List V → List V} {e o : Expr} {es : List Expr} {kws : List Keyword} {p pos apos : Pos} {t tk : TA} {ta : TE}
theorem pe_g (G : Gf X.prog X.w X.K X.mg X.base k x ps dvs sp) (hr : Room k X.A) (hg : Gl X x) (ha : PA X (e :: es) t) (hdb : (x == ("__debug__" : Str)) = false := by decide)
    (he : starEach (e :: es) X.env = (false, eval e X.env) :: starEach es X.env := by rfl) (hpl : (backTo pos (starEach es X.env)).any (·.1) = false := by rfl) : PE X (.Call (.Name x p) (e :: es) [] pos) (tCall sp dvs E0 t) :=
  let ⟨_, _, _, F, hm, hk, hb, hd⟩ := G.ex
  pe_call F hr hg hm hk hb hd pass0 ha hdb he hpl
theorem pe_g0 (G : Gf X.prog X.w X.K X.mg X.base k x ps dvs sp) (hr : Room k X.A) (hg : Gl X x) (hdb : (x == ("__debug__" : Str)) = false := by decide) : PE X (.Call (.Name x p) [] [] pos) (tCall sp dvs E0 tNil) :=
  let ⟨_, _, _, F, hm, hk, hb, hd⟩ := G.ex
  pe_call0 F hr hg hm hk hb hd pass0 hdb
theorem pe_gk (G : Gk X.prog X.w X.K X.mg X.base k x ps n ks gV sp) (hr : Room k X.A) (hg : Gl X x) (ha : PA X (e :: es) t) (hkw : PK X kws tk) (hall : (backToKw pos (keywordEach kws X.env)).all (·.1.isSome) = true := by rfl) (hks : (backToKw pos (keywordEach kws X.env)).filterMap (·.1) = ks := by rfl)
    (hdb : (x == ("__debug__" : Str)) = false := by decide) (he : starEach (e :: es) X.env = (false, eval e X.env) :: starEach es X.env := by rfl)
    (hpl : ((backTo pos (starEach (e :: es) X.env)).any (·.1) || (backToKw pos (keywordEach kws X.env)).any (·.1.isNone)) = false := by rfl) : PE X (.Call (.Name x p) (e :: es) kws pos) (tCallN n ks.length sp gV E0 t tk) :=
  let ⟨_, _, _, F, hm, hk, hb⟩ := G.ex
  pe_callN F hr hg hm hk hb pass0 ha hkw hall hks hdb he hpl
theorem pe_gm {pl : Sem Bool} (he : PE X o ta) (c : Cls X.K C) (G : Gm X.prog X.w X.K X.mg X.base k C m ps dvs sp) (hr : Room k X.A) (ha : PA X (e :: es) t)
    (hst : starEach (e :: es) X.env = (false, eval e X.env) :: starEach es X.env := by rfl) (hpl : (backTo pos (starEach es X.env)).any (·.1) = false := by rfl)
    (ht : eval (.Call (.Attribute o m apos) (e :: es) [] pos) X.env = (do
      let ov ← eval o X.env
      standAt apos.atName
      let (f, first) ← holding [ov] (getMethod ov m pl)
      callWith pos f first (backTo pos (starEach (e :: es) X.env)) (backToKw pos (keywordEach [] X.env))) := by rfl) : PE X (.Call (.Attribute o m apos) (e :: es) [] pos) (tMeth C m sp dvs E0 ta t) :=
  let ⟨_, _, _, F, hm, hb, hd⟩ := G.ex
  pe_meth he c hm F hr hb hd pass0 ha hst hpl ht
theorem pe_gm0 {pl : Sem Bool} (he : PE X o ta) (c : Cls X.K C) (G : Gm X.prog X.w X.K X.mg X.base k C m ps dvs sp) (hr : Room k X.A)
    (ht : eval (.Call (.Attribute o m apos) [] [] pos) X.env = (do
      let ov ← eval o X.env
      standAt apos.atName
      let (f, first) ← holding [ov] (getMethod ov m pl)
      callWith pos f first (backTo pos (starEach [] X.env)) (backToKw pos (keywordEach [] X.env))) := by rfl) : PE X (.Call (.Attribute o m apos) [] [] pos) (tMeth C m sp dvs E0 ta tNil) :=
  let ⟨_, _, _, F, hm, hb, hd⟩ := G.ex
  pe_meth0 he c hm F hr hb hd pass0 ht
theorem pe_gc (G : Gc X.prog X.w X.K X.mg X.base k x C ps dvs sp) (hr : Room (k + 1) X.A) (hg : Gl X x) (ha : PA X (e :: es) t) (hdb : (x == ("__debug__" : Str)) = false := by decide)
    (he : starEach (e :: es) X.env = (false, eval e X.env) :: starEach es X.env := by rfl) (hpl : (backTo pos (starEach es X.env)).any (·.1) = false := by rfl) : PE X (.Call (.Name x p) (e :: es) [] pos) (tMake C sp dvs E0 t) :=
  let ⟨_, _, _, F, hm, hk, hb, hd⟩ := G.ex
  pe_make hk F hr hg hm hb hd pass0 ha hdb he hpl
theorem pe_gc0 (G : Gc X.prog X.w X.K X.mg X.base k x C ps dvs sp) (hr : Room (k + 1) X.A) (hg : Gl X x) (hdb : (x == ("__debug__" : Str)) = false := by decide) : PE X (.Call (.Name x p) [] [] pos) (tMake C sp dvs E0 tNil) :=
  let ⟨_, _, _, F, hm, hk, hb, hd⟩ := G.ex
  pe_make0 hk F hr hg hm hb hd pass0 hdb
theorem pe_gck (G : Gck X.prog X.w X.K X.mg X.base k x C ps n ks gV sp) (hr : Room (k + 1) X.A) (hg : Gl X x) (ha : PA X (e :: es) t) (hkw : PK X kws tk) (hall : (backToKw pos (keywordEach kws X.env)).all (·.1.isSome) = true := by rfl) (hks : (backToKw pos (keywordEach kws X.env)).filterMap (·.1) = ks := by rfl)
    (hdb : (x == ("__debug__" : Str)) = false := by decide) (he : starEach (e :: es) X.env = (false, eval e X.env) :: starEach es X.env := by rfl)
    (hpl : ((backTo pos (starEach (e :: es) X.env)).any (·.1) || (backToKw pos (keywordEach kws X.env)).any (·.1.isNone)) = false := by rfl) : PE X (.Call (.Name x p) (e :: es) kws pos) (tMakeK C n ks.length sp gV E0 t tk) :=
  let ⟨_, _, _, F, hm, hk, hb⟩ := G.ex
  pe_makeK hk F hr hg hm hb pass0 ha hkw hall hks hdb he hpl
end
end Pw

set_option Elab.async false
set_option linter.all false
set_option maxRecDepth 100000
set_option maxHeartbeats 2000000
namespace Pw
open PySem PySem.Spec PySem.W L2
open PyProof.Rows hiding St
open Evl (sq_of st_of)
variable [Tbs]
/-! ### 12. what is walked -/
structure Wk {α : Type} (J : It) (B : Hp) (R : Rl α) (as : List α) : Prop where
  stop : ∀ H, Ex B H → J.stop as.length H
  go : ∀ i a H, Ex B H → as[i]? = some a → J.go i H
  yld : ∀ i a H v H', Ex B H → as[i]? = some a → J.yld i H v H' → ∀ B1, Ex B B1 → Ex B1 H → ∃ B', Grow B1 H B' H' ∧ R B' v a
def EvI {α : Type} (wi : TI) (σ : L2.St) (B : Hp) (R : Rl α) (as : List α) : Prop := ∀ H, Ex B H → ∀ Rk : It → Hp → Prop, (∀ J B' H', Grow B H B' H' → Wk J B' R as → Rk J H') → wi σ H Rk
/-- enumerate's items, zip's -/
def EnR {α : Type} (K : PySem.W.Frag) (R : Rl α) : Rl (α × Nat) := fun B v p => ∃ T x, v = .ref T ∧ SqT K B T [.int (p.2 : Nat), x] ∧ R B x p.1
def ZiR {α β : Type} (K : PySem.W.Frag) (R : Rl α) (S : Rl β) : Rl (α × β) := fun B v p => ∃ T x y, v = .ref T ∧ SqT K B T [x, y] ∧ R B x p.1 ∧ S B y p.2
instance {α : Type} {K : PySem.W.Frag} {R : Rl α} [MonoR R] : MonoR (EnR K R) := ⟨fun e ⟨T, x, h, s, r⟩ => ⟨T, x, h, ex_t e s, MonoR.up e r⟩⟩
instance {α β : Type} {K : PySem.W.Frag} {R : Rl α} {S : Rl β} [MonoR R] [MonoR S] : MonoR (ZiR K R S) := ⟨fun e ⟨T, x, y, h, s, r, t⟩ => ⟨T, x, y, h, ex_t e s, MonoR.up e r, MonoR.up e t⟩⟩
section
variable {K : PySem.W.Frag} {α β : Type} {R : Rl α} {S : Rl β} {te tl : TE} {tt : TT} {ta : TA} {g : TG} {σ : L2.St} {B B' : Hp} {vs : List Nat} {as : List α} {bs : List β} {wi : TI}
theorem EvI.mono [MonoR R] (h : EvI wi σ B R as) (e : Ex B B') : EvI wi σ B' R as := fun H bh Rk k => h H (e.trans bh) Rk fun J B1 H1 g w =>
  let ⟨g1, e1⟩ := g.widen e bh
  k J _ H1 g1 ⟨fun H x => w.stop H (e1.trans x), fun i a H x hi => w.go i a H (e1.trans x) hi, fun i a H v H' x hi y B2 e2 b2 => w.yld i a H v H' (e1.trans x) hi y B2 (e1.trans e2) b2⟩
theorem evi_list [MonoR R] (h : EvP tl σ B (LsOf K R as)) : EvI (iList K tl) σ B R as := fun H bh Rk k => h H bh _ fun v B1 H1 g ⟨p, xs, e, s, it⟩ => by
  subst e
  have len : xs.length = as.length := Paired.length it
  refine ⟨p, rfl, ⟨xs, ex_l g.bh (sq_of s)⟩, k _ B1 H1 g ⟨fun H x => ⟨xs, ex_l x (sq_of s), by rw [len]; exact Nat.le_refl _⟩, fun i a H x hi => ?_, fun i a H v H' x hi y B2 e2 b2 => ?_⟩⟩
  · obtain ⟨z, hz, _⟩ := paired_get' it hi
    exact ⟨xs, z, ex_l x (sq_of s), hz⟩
  · obtain ⟨z, hz, rz⟩ := paired_get' it hi
    obtain ⟨e1, y⟩ := y
    subst e1
    have hv := y xs (ex_l x (sq_of s))
    rw [hz] at hv
    cases hv
    exact ⟨B2, Grow.refl b2, MonoR.up e2 rz⟩
theorem evi_tup [MonoR R] (h : EvP tl σ B (TsOf K R as)) : EvI (iTup K tl) σ B R as := fun H bh Rk k => h H bh _ fun v B1 H1 g ⟨p, xs, e, s, it⟩ => by
  subst e
  have len : xs.length = as.length := Paired.length it
  refine ⟨p, rfl, ⟨xs, ex_t g.bh s⟩, k _ B1 H1 g ⟨fun H x => ⟨xs, ex_t x s, by rw [len]; exact Nat.le_refl _⟩, fun i a H x hi => ?_, fun i a H v H' x hi y B2 e2 b2 => ?_⟩⟩
  · obtain ⟨z, hz, _⟩ := paired_get' it hi
    exact ⟨xs, z, ex_t x s, hz⟩
  · obtain ⟨z, hz, rz⟩ := paired_get' it hi
    obtain ⟨e1, y⟩ := y
    subst e1
    have hv := y xs (ex_t x s)
    rw [hz] at hv
    cases hv
    exact ⟨B2, Grow.refl b2, MonoR.up e2 rz⟩
theorem evi_str {x : Str} (h : EvV te σ B (.str x)) : EvI (iStr te) σ B (VR fun c => .str ⟨#[c]⟩) x.cps.toList := fun H bh Rk k => h H bh _ fun v B1 H1 g e => by
  refine ⟨x, e, k _ B1 H1 g ⟨fun H _ => ?_, fun i a H _ hi => ?_, fun i a H v H' _ hi y B2 _ b2 => ?_⟩⟩
  · show x.cps.size ≤ x.cps.toList.length
    simp
  · have := (List.getElem?_eq_some_iff.mp hi).1
    show i < x.cps.size
    simpa using this
  · obtain ⟨e1, c, hc, hv⟩ := y
    subst e1
    have e2 : x.cps.toList[i]? = some c := by simpa using hc
    rw [e2] at hi
    cases hi
    exact ⟨B2, Grow.refl b2, hv⟩
theorem evi_rng1 {n : Int} (h : EvA ta σ B (Iss [.int n])) (hn : -1000000 ≤ n ∧ n ≤ 1000000) : EvI (iRng1 ta) σ B (VR fun i : Nat => .int i) (List.range n.toNat) := fun H bh Rk k => h H bh _ fun v B1 H1 g e => by
  refine ⟨n, e, by omega, by omega, k _ B1 H1 g ⟨fun H _ => ?_, fun i a H _ hi => ?_, fun i a H v H' _ hi y B2 _ b2 => ?_⟩⟩
  · show n.toNat ≤ (List.range n.toNat).length
    simp
  · have := (List.getElem?_eq_some_iff.mp hi).1
    show i < n.toNat
    simpa using this
  · obtain ⟨e1, hv⟩ := y
    subst e1
    have hl := (List.getElem?_eq_some_iff.mp hi)
    obtain ⟨h1, h2⟩ := hl
    rw [List.getElem_range] at h2
    subst h2
    refine ⟨B2, Grow.refl b2, ?_⟩
    rw [hv]
    simp
theorem evi_rng2 {lo n : Int} (h : EvA ta σ B (Iss [.int lo, .int n])) (hn : -1000000 ≤ n ∧ n ≤ 1000000 ∧ -1000000 ≤ lo ∧ lo ≤ 1000000) : EvI (iRng2 ta) σ B (VR fun i : Nat => .int (lo + i)) (List.range (n - lo).toNat) := fun H bh Rk k => h H bh _ fun v B1 H1 g e => by
  refine ⟨lo, n, e, ⟨by omega, by omega, by omega, by omega⟩, k _ B1 H1 g ⟨fun H _ => ?_, fun i a H _ hi => ?_, fun i a H v H' _ hi y B2 _ b2 => ?_⟩⟩
  · show (n - lo).toNat ≤ (List.range (n - lo).toNat).length
    simp
  · have := (List.getElem?_eq_some_iff.mp hi).1
    show i < (n - lo).toNat
    simpa using this
  · obtain ⟨e1, hv⟩ := y
    subst e1
    obtain ⟨h1, h2⟩ := (List.getElem?_eq_some_iff.mp hi)
    rw [List.getElem_range] at h2
    subst h2
    exact ⟨B2, Grow.refl b2, hv⟩
theorem evi_enum [MonoR R] (h : EvP tl σ B (LsOf K R as)) : EvI (iEnum K (tCons tl tNil)) σ B (EnR K R) as.zipIdx := fun H bh Rk k => h H bh _ fun v B1 H1 g ⟨p, xs, e, s, it⟩ => by
  subst e
  have len : xs.length = as.length := Paired.length it
  have zi : ∀ i (q : α × Nat), as.zipIdx[i]? = some q → q.2 = i ∧ as[i]? = some q.1 := fun i q hq => by
    rw [List.getElem?_zipIdx] at hq
    cases ha : as[i]? with
    | none => rw [ha] at hq; cases hq
    | some a => rw [ha] at hq; cases hq; exact ⟨by simp, rfl⟩
  refine ⟨p, xs, rfl, ex_l g.bh (sq_of s), k _ B1 H1 g ⟨fun H x => ⟨xs, ex_l x (sq_of s), by rw [len]; simp⟩, fun i a H x hi => ?_, fun i a H v H' x hi y B2 e2 b2 => ?_⟩⟩
  · obtain ⟨z, hz, _⟩ := paired_get' it (zi i a hi).2
    exact ⟨xs, z, ex_l x (sq_of s), hz⟩
  · obtain ⟨z, hz, rz⟩ := paired_get' it (zi i a hi).2
    obtain ⟨T, w, hv, hT, hH, hx⟩ := y
    subst hH
    have hw := hx xs (ex_l x (sq_of s))
    rw [hz] at hw
    cases hw
    refine ⟨_, (Grow.refl b2).laid hT, T, z, hv, ?_, MonoR.up (e2.trans (Ex.new b2.l (ex_none b2 hT))) rz⟩
    rw [(zi i a hi).1]
    exact st_of upd_same
theorem evi_zip [MonoR R] [MonoR S] {tm : TE} (h : EvP tl σ B (LsOf K R as)) (h2 : EvP tm σ B (LsOf K S bs)) : EvI (iZip K (tCons tl (tCons tm tNil))) σ B (ZiR K R S) (as.zip bs) := fun H bh Rk k => h H bh _ fun v B1 H1 g ⟨p, xs, e, s, it⟩ => h2.mono g.b H1 g.bh _ fun v2 B2 H2 g2 ⟨p2, ys, e2, s2, it2⟩ => by
  subst e e2
  have len : xs.length = as.length := Paired.length it
  have len2 : ys.length = bs.length := Paired.length it2
  have zi : ∀ i (q : α × β), (as.zip bs)[i]? = some q → as[i]? = some q.1 ∧ bs[i]? = some q.2 := fun i q hq => by
    rw [List.getElem?_zip_eq_some] at hq
    exact hq
  refine ⟨p, p2, xs, ys, rfl, ex_l (g2.b.trans g2.bh) (sq_of s), ex_l g2.bh (sq_of s2), k _ B2 H2 (g.trans g2) ⟨fun H x => ⟨xs, ys, ex_l (g2.b.trans x) (sq_of s), ex_l x (sq_of s2), ?_⟩, fun i a H x hi => ?_, fun i a H v H' x hi y B3 e3 b3 => ?_⟩⟩
  · rw [len, len2, List.length_zip]
    omega
  · obtain ⟨z, hz, _⟩ := paired_get' it (zi i a hi).1
    obtain ⟨z2, hz2, _⟩ := paired_get' it2 (zi i a hi).2
    exact ⟨xs, ys, z, z2, ex_l (g2.b.trans x) (sq_of s), ex_l x (sq_of s2), hz, hz2⟩
  · obtain ⟨z, hz, rz⟩ := paired_get' it (zi i a hi).1
    obtain ⟨z2, hz2, rz2⟩ := paired_get' it2 (zi i a hi).2
    obtain ⟨T, w, w2, hv, hT, hH, hx, hy⟩ := y
    subst hH
    have hw := hx xs (ex_l (g2.b.trans x) (sq_of s))
    rw [hz] at hw
    cases hw
    have hw2 := hy ys (ex_l x (sq_of s2))
    rw [hz2] at hw2
    cases hw2
    exact ⟨_, (Grow.refl b3).laid hT, T, z, z2, hv, st_of upd_same, MonoR.up (g2.b.trans (e3.trans (Ex.new b3.l (ex_none b3 hT)))) rz, MonoR.up (e3.trans (Ex.new b3.l (ex_none b3 hT))) rz2⟩
/-- [e for x in .. if p] -/
theorem evp_lcI [MonoR R] [MonoR S] (p : α → Bool) (e : α → β) (hl : EvI wi σ B R as) (hz : as.length ≤ 1000000)
    (hs : ∀ B' x a, Ex B B' → a ∈ as → R B' x a → ∃ σ1, EvG g x (wipe σ vs) B' σ1 ∧ wipe σ1 vs = wipe σ vs ∧ EvT tt σ1 B' (p a) ∧ (p a = true → EvP te σ1 B' fun B' v => S B' v (e a))) :
    EvP (tLc wi g tt te vs) σ B (LsOf K S ((as.filter p).map e)) := fun H bh Q q => hl H bh _ fun J B1 H1 g1 w D hD => by
  refine ⟨fun i m H' => m = as.length - i ∧ i ≤ as.length ∧ LcSt S p e as B1 H1 D i H', ⟨as.length, by simp, Nat.zero_le _, B1, [], (Grow.refl g1.bh).cell hD, Cell.mk' (Grow.refl g1.bh) hD, .nil⟩, ?_⟩
  rintro i m H' ⟨rfl, hi, st⟩
  obtain ⟨B2, ys, gr, c, it⟩ := id st.ex
  by_cases hlt : i < as.length
  · have ha : as[i]? = some as[i] := List.getElem?_eq_getElem hlt
    refine .inr ⟨w.go i _ H' (gr.b.trans gr.bh) ha, fun H'' => LcSt S p e as B1 H1 D (i + 1) H'', fun H'' st' => ⟨as.length - (i + 1), by omega, rfl, hlt, st'⟩, fun x H'' y => ?_⟩
    obtain ⟨B3, g3, r3⟩ := w.yld i _ H' x H'' (gr.b.trans gr.bh) ha y B2 gr.b gr.bh
    have gr3 := gr.trans g3
    have c3 := c.grow g3
    obtain ⟨σ1, h1, h2, h3, h4⟩ := hs B3 x _ (g1.b.trans gr3.b) (List.mem_of_getElem? ha) r3
    have it3 := Mono.up (P := Items S _) g3.b it
    refine h1 H'' gr3.bh _ ⟨h2, h3 H'' gr3.bh _ fun B4 H4 g4 => ?_⟩
    have gr4 := gr3.trans g4
    have c4 := c3.grow g4
    cases hp : p as[i] with
    | false =>
      refine iteF ⟨B4, ys, gr4, c4, ?_⟩
      rw [filt_no ha hp]
      exact Mono.up (P := Items S _) g4.b it3
    | true =>
      haveI : Mono (fun B' v => S B' v (e as[i])) := ⟨fun ee h => MonoR.up ee h⟩
      refine iteT ((h4 hp).mono g4.b H4 g4.bh _ fun y B5 H5 g5 sy => ⟨ys, (c4.grow g5).at_, ?_, ?_⟩)
      · have l : ys.length = _ := Paired.length it
        have := filter_len_le (as := as) (p := p) (e := e) (i := i)
        exact Nat.lt_of_le_of_lt (l ▸ Nat.le_trans this hz) (by decide)
      · have c5 := c4.grow g5
        refine ⟨B5, ys ++ [y], (gr4.trans g5).mut c5, c5.set, ?_⟩
        rw [filt_yes ha hp]
        exact paired_app (Mono.up (P := Items S _) (g4.b.trans g5.b) it3) (.cons sy .nil)
  · have e1 : i = as.length := by omega
    subst e1
    exact .inl ⟨w.stop H' (gr.b.trans gr.bh), lc_end st fun v B' H' gr ls => q v B' H' (g1.trans gr) ls⟩
/-- [e for x in ..] -/
theorem evp_lcA [MonoR R] [MonoR S] (e : α → β) (hl : EvI wi σ B R as) (hz : as.length ≤ 1000000)
    (hs : ∀ B' x a, Ex B B' → a ∈ as → R B' x a → ∃ σ1, EvG g x (wipe σ vs) B' σ1 ∧ wipe σ1 vs = wipe σ vs ∧ EvP te σ1 B' fun B' v => S B' v (e a)) :
    EvP (tLc wi g tYes te vs) σ B (LsOf K S (as.map e)) := by
  have h := evp_lcI (K := K) (S := S) (fun _ => true) e hl hz fun B' x a e1 ha r => let ⟨σ1, h1, h2, h3⟩ := hs B' x a e1 ha r; ⟨σ1, h1, h2, evt_yes, fun _ => h3⟩
  have e2 : as.filter (fun _ => true) = as := List.filter_eq_self.mpr fun _ _ => rfl
  rw [e2] at h
  exact h
/-- for: Pv by the turn, the slots, what stands for good, the heap -/
theorem s_forI {H : Hp} {D : Ends} {tb : TS} (h : EvI wi σ B R as) (bh : Ex B H) (Pv : Nat → L2.St → Hp → Hp → Prop) (h0 : ∀ B1 H1, Grow B H B1 H1 → Pv 0 σ B1 H1)
    (hs : ∀ i a v σ' B' H' B2 H2, Ex B B' → Ex B' H' → as[i]? = some a → Pv i σ' B' H' → Grow B' H' B2 H2 → R B2 v a →
      g v σ' H2 fun σ2 H3 => tb { D with nx := fun σ3 H4 => ∃ B3, Ex B' B3 ∧ Ex B3 H4 ∧ Pv (i + 1) σ3 B3 H4, ct := fun σ3 H4 => ∃ B3, Ex B' B3 ∧ Ex B3 H4 ∧ Pv (i + 1) σ3 B3 H4, bk := D.nx } σ2 H3)
    (hd : ∀ σ' B' H', Ex B B' → Ex B' H' → Pv as.length σ' B' H' → D.nx σ' H') : tFor wi g tb D σ H := h H bh _ fun J B1 H1 g1 w => by
  refine ⟨fun i m σ' H' => m = as.length - i ∧ i ≤ as.length ∧ ∃ B', Ex B1 B' ∧ Ex B' H' ∧ Pv i σ' B' H', ⟨as.length, by simp, Nat.zero_le _, B1, Ex.refl g1.bh.l, g1.bh, h0 B1 H1 g1⟩, ?_⟩
  rintro i m σ' H' ⟨rfl, hi, B', e1, b1, pv⟩
  by_cases hlt : i < as.length
  · have ha : as[i]? = some as[i] := List.getElem?_eq_getElem hlt
    refine .inr ⟨w.go i _ H' (e1.trans b1) ha, fun σ3 H4 => ∃ B3, Ex B' B3 ∧ Ex B3 H4 ∧ Pv (i + 1) σ3 B3 H4, fun σ3 H4 ⟨B3, e3, b3, p3⟩ => ⟨as.length - (i + 1), by omega, rfl, hlt, B3, e1.trans e3, b3, p3⟩, fun x H2 y => ?_⟩
    obtain ⟨B2, g2, r2⟩ := w.yld i _ H' x H2 (e1.trans b1) ha y B' e1 b1
    exact hs i _ x σ' B' H' B2 H2 (g1.b.trans e1) b1 ha pv g2 r2
  · have e2 : i = as.length := by omega
    subst e2
    exact .inl ⟨w.stop H' (e1.trans b1), hd σ' B' H' (g1.b.trans e1) b1 pv⟩
/-- for, a pure body -/
theorem evs_forI [MonoR R] {tb tz : TS} {P : Hp → V → Prop} {N : Hp → L2.St → Prop} (h : EvI wi σ B R as) (I : Nat → Hp → L2.St → Prop) [∀ i, Mono (I i)] (h0 : I 0 B σ)
    (hs : ∀ i a v σ' B', Ex B B' → as[i]? = some a → R B' v a → I i B' σ' → ∃ σ1, EvG g v σ' B' σ1 ∧ EvS tb σ1 B' P (I (i + 1)))
    (hd : ∀ σ' B', Ex B B' → I as.length B' σ' → EvS tz σ' B' P N) : EvS (tSeq (tFor wi g tb) tz) σ B P N := fun H bh D r n => by
  refine s_forI (D := { D with nx := tz D }) h bh (fun i σ' B' H' => Grow B H B' H' ∧ I i B' σ') (fun B1 H1 g1 => ⟨g1, Mono.up g1.b h0⟩) (fun i a v σ' B' H' B2 H2 e1 b1 ha pv g2 r2 => ?_) fun σ' B' H' e1 b1 pv => ?_
  · obtain ⟨gr, it⟩ := pv
    obtain ⟨σ1, h1, h2⟩ := hs i a v σ' B2 (e1.trans g2.b) ha r2 (Mono.up g2.b it)
    refine h1 H2 g2.bh _ (h2 H2 g2.bh _ (fun v B3 H3 g3 p3 => r v B3 H3 ((gr.trans g2).trans g3) p3) fun σ3 B3 H3 g3 i3 => ⟨B3, (g2.trans g3).b, g3.bh, (gr.trans g2).trans g3, i3⟩)
  · exact hd σ' B' pv.1.b pv.2 H' pv.1.bh D (fun v B3 H3 g3 p3 => r v B3 H3 (pv.1.trans g3) p3) fun σ3 B3 H3 g3 p3 => n σ3 B3 H3 (pv.1.trans g3) p3
end
end Pw

set_option Elab.async false
set_option linter.all false
set_option maxRecDepth 100000
set_option maxHeartbeats 2000000
namespace Pw
open PySem PySem.Spec PySem.W L2
open PyProof.Rows hiding St
open Evl (sq_of st_of)
variable [Tbs]
/-! ### 13. comprehensions of two clauses -/
structure LcG {β : Type} (S : Rl β) (cs : List β) (B0 H0 : Hp) (D : Addr) (H : Hp) : Prop where
  ex : ∃ (B : Hp) (ys : List V), Grow B0 H0 B H ∧ Cell H0 B H D (.lst ys) ∧ Items S cs B ys
theorem flat_next {α β : Type} {as : List α} {i : Nat} {a : α} {f : α → List β} (h : as[i]? = some a) : (as.take (i + 1)).flatMap f = (as.take i).flatMap f ++ f a := by
  rw [take_next h, List.flatMap_append]
  simp
theorem flat_le {α β : Type} {as : List α} {i : Nat} {f : α → List β} : ((as.take i).flatMap f).length ≤ (as.flatMap f).length := by
  have h : as.flatMap f = (as.take i).flatMap f ++ (as.drop i).flatMap f := by rw [← List.flatMap_append, List.take_append_drop]
  rw [h, List.length_append]
  omega
section
variable {K : PySem.W.Frag} {α β γ : Type} {R : Rl α} {R1 : Rl β} {S : Rl γ} {te : TE} {g g1 : TG} {σ : L2.St} {B B' : Hp} {vs vs1 : List Nat} {as : List α} {wi wi1 : TI}
theorem evp_lc2 [MonoR R] [MonoR R1] [MonoR S] (bs : α → List β) (e : α → β → γ) (hl : EvI wi σ B R as) (hz : (as.flatMap fun a => (bs a).map (e a)).length ≤ 1000000)
    (hs : ∀ B' x a, Ex B B' → a ∈ as → R B' x a → ∃ σ1, EvG g x (wipe σ vs) B' σ1 ∧ wipe σ1 vs = wipe σ vs ∧ EvI wi1 σ1 B' R1 (bs a) ∧
      ∀ B2 y b, Ex B' B2 → b ∈ bs a → R1 B2 y b → ∃ σ2, EvG g1 y (wipe σ1 vs1) B2 σ2 ∧ wipe σ2 vs1 = wipe σ1 vs1 ∧ EvP te σ2 B2 fun B3 v => S B3 v (e a b)) :
    EvP (tLc2 wi g tYes wi1 g1 tYes te vs vs1) σ B (LsOf K S (as.flatMap fun a => (bs a).map (e a))) := fun H bh Q q => hl H bh _ fun J B1 H1 g1' w D hD => by
  refine ⟨fun i m H' => m = as.length - i ∧ i ≤ as.length ∧ LcG S ((as.take i).flatMap fun a => (bs a).map (e a)) B1 H1 D H', ⟨as.length, by simp, Nat.zero_le _, B1, [], (Grow.refl g1'.bh).cell hD, Cell.mk' (Grow.refl g1'.bh) hD, .nil⟩, ?_⟩
  rintro i m H' ⟨rfl, hi, st⟩
  obtain ⟨B2, ys, gr, c, it⟩ := id st.ex
  by_cases hlt : i < as.length
  · have ha : as[i]? = some as[i] := List.getElem?_eq_getElem hlt
    refine .inr ⟨w.go i _ H' (gr.b.trans gr.bh) ha, fun H'' => LcG S ((as.take (i + 1)).flatMap fun a => (bs a).map (e a)) B1 H1 D H'', fun H'' st' => ⟨as.length - (i + 1), by omega, rfl, hlt, st'⟩, fun x H'' y => ?_⟩
    obtain ⟨B3, g3, r3⟩ := w.yld i _ H' x H'' (gr.b.trans gr.bh) ha y B2 gr.b gr.bh
    have gr3 := gr.trans g3
    have c3 := c.grow g3
    obtain ⟨σ1, h1, h2, h3, h4⟩ := hs B3 x _ (g1'.b.trans gr3.b) (List.mem_of_getElem? ha) r3
    have it3 := Mono.up (P := Items S _) g3.b it
    refine h1 H'' gr3.bh _ ⟨h2, ?_⟩
    simp only [tYes, ↓reduceIte]
    refine h3 H'' gr3.bh _ fun J1 B4 H4 g4 w1 => ?_
    have nx : ∀ j, (((as.take i).flatMap fun a => (bs a).map (e a)) ++ ((bs as[i]).take j).map (e as[i])).length ≤ 1000000 := fun j => by
      refine Nat.le_trans ?_ hz
      refine Nat.le_trans ?_ (flat_le (i := i + 1))
      rw [flat_next ha, List.length_append, List.length_append, List.length_map, List.length_map, List.length_take]
      omega
    refine ⟨fun j k H5 => k = (bs as[i]).length - j ∧ j ≤ (bs as[i]).length ∧ ∃ (B : Hp) (ys : List V), Grow B1 H1 B H5 ∧ Ex B4 B ∧ Cell H1 B H5 D (.lst ys) ∧ Items S (((as.take i).flatMap fun a => (bs a).map (e a)) ++ ((bs as[i]).take j).map (e as[i])) B ys,
      ⟨(bs as[i]).length, by simp, Nat.zero_le _, B4, ys, gr3.trans g4, Ex.refl g4.bh.l, c3.grow g4, ?_⟩, ?_⟩
    · rw [List.take_zero, List.map_nil, List.append_nil]
      exact Mono.up (P := Items S _) g4.b it3
    · rintro j k H5 ⟨rfl, hj, B5, zs, gr5, e45, c5, it5⟩
      by_cases hlt2 : j < (bs as[i]).length
      · have hb : (bs as[i])[j]? = some (bs as[i])[j] := List.getElem?_eq_getElem hlt2
        refine .inr ⟨w1.go j _ H5 (e45.trans gr5.bh) hb, fun H6 => ∃ (B : Hp) (ys : List V), Grow B1 H1 B H6 ∧ Ex B4 B ∧ Cell H1 B H6 D (.lst ys) ∧ Items S (((as.take i).flatMap fun a => (bs a).map (e a)) ++ ((bs as[i]).take (j + 1)).map (e as[i])) B ys, fun H6 st' => ⟨(bs as[i]).length - (j + 1), by omega, rfl, hlt2, st'⟩, fun x2 H6 y2 => ?_⟩
        obtain ⟨B6, g6, r6⟩ := w1.yld j _ H5 x2 H6 (e45.trans gr5.bh) hb y2 B5 e45 gr5.bh
        obtain ⟨σ2, k1, k2, k3⟩ := h4 B6 x2 _ (g4.b.trans (e45.trans g6.b)) (List.mem_of_getElem? hb) r6
        refine k1 H6 g6.bh _ ⟨k2, ?_⟩
        refine k3 H6 g6.bh _ fun z B7 H7 g7 sz => ⟨zs, ((c5.grow g6).grow g7).at_, ?_, ?_⟩
        · have l : zs.length = _ := Paired.length it5
          exact Nat.lt_of_le_of_lt (l ▸ nx j) (by decide)
        · have c7 := (c5.grow g6).grow g7
          refine ⟨B7, zs ++ [z], ((gr5.trans g6).trans g7).mut c7, e45.trans (g6.b.trans g7.b), c7.set, ?_⟩
          rw [take_next hb, List.map_append, ← List.append_assoc]
          exact paired_app (Mono.up (P := Items S _) (g6.b.trans g7.b) it5) (.cons sz .nil)
      · have e1 : j = (bs as[i]).length := by omega
        subst e1
        refine .inl ⟨w1.stop H5 (e45.trans gr5.bh), B5, zs, gr5, c5, ?_⟩
        rw [flat_next ha]
        rw [List.take_length] at it5
        exact it5
  · have e1 : i = as.length := by omega
    subst e1
    rw [List.take_length] at it
    exact .inl ⟨w.stop H' (gr.b.trans gr.bh), q _ _ _ (g1'.trans (gr.freeze c)) ⟨D, ys, rfl, upd_same, Mono.up (P := Items S _) (Ex.new gr.bh.l c.nb) it⟩⟩
end
/-! ### 14. one or the other -/
theorem pi_or {X : Cx} {tg e : Expr} {w1 w2 : TI} (h1 : PI X tg e w1) (h2 : PI X tg e w2) : PI X tg e (fun σ H R => w1 σ H R ∨ w2 σ H R) := ⟨fun pins s σ H R I h => by
  rcases h with h | h
  · exact h1.run pins s σ H R I h
  · exact h2.run pins s σ H R I h⟩
section
variable {K : PySem.W.Frag} {α β : Type} {R : Rl α} {S : Rl β} {te ta : TE} {tl th : TO} {σ : L2.St} {B : Hp} {as : List α} {w1 w2 : TI} {x : V} {b1 b2 : Bool}
/-- a list or a tuple of such things -/
def SeqOf (K : PySem.W.Frag) (R : Rl α) (as : List α) : Hp → V → Prop := fun B v => LsOf K R as B v ∨ TsOf K R as B v
instance [MonoR R] : Mono (SeqOf K R as) := ⟨fun e h => h.elim (fun h => .inl (Mono.up (P := LsOf K R as) e h)) fun h => .inr (Mono.up (P := TsOf K R as) e h)⟩
theorem evi_seq [MonoR R] {i : Nat} {v : V} (hv : σ[i]? = some (some v)) (h : SeqOf K R as B v) : EvI (fun σ H Rk => iList K (tVar i) σ H Rk ∨ iTup K (tVar i) σ H Rk) σ B R as := fun H bh Rk k => by
  rcases h with h | h
  · exact .inl (evi_list (evp_var hv h) H bh Rk k)
  · exact .inr (evi_tup (evp_var hv h) H bh Rk k)
theorem tyX_l {H : Hp} {a : Addr} {xs : List V} (h : SqL K H a xs) : TyX K H (.ref a) (.type "list") := by
  rcases h with (h | ⟨o, h⟩) | ⟨o, its, n, h, hc, _⟩
  · exact .base (.lst h)
  · exact .base (.frz h)
  · exact .kList h hc
theorem tyX_t {H : Hp} {a : Addr} {xs : List V} (h : SqT K H a xs) : TyX K H (.ref a) (.type "tuple") := by
  rcases h with (h | ⟨o, h⟩) | ⟨o, its, n, h, hc, _⟩
  · exact .base (.tup h)
  · exact .fTuple h
  · exact .kTuple h hc
/-- isinstance(x, (T1, T2)) of built-in types -/
theorem evv_isi2 {n1 n2 m : String} (ha : EvV ta σ B x) (ht : ∀ H, Ex B H → TyX K H x (.type m)) (h1 : kitB m n1 = some b1) (h2 : kitB m n2 = some b2) : EvV (tCB (rIsiT K) (tCons ta (tCons (tTup (tCons (tC (.ty n1)) (tCons (tC (.ty n2)) tNil))) tNil))) σ B (.bl (b1 || b2)) := fun H bh Q q =>
  ha H bh _ fun v B1 H1 g e => by
    cases e
    refine ⟨by show 2 ≤ sizeLine; decide, fun p hp => ⟨x, p, [.ty n1, .ty n2], .type m, [.type n1, .type n2], b1 || b2, rfl, upd_same, .cons (.ty n1) (.cons (.ty n2) .nil), ht _ ((g.b.trans g.bh).trans (Ex.new g.bh.r hp)), kitAny_cons (kit_ty h1) (fun e => ?_) (fun e => by rw [e]; rfl), ?_⟩⟩
    · rw [e]
      exact kitAny_cons (kit_ty h2) (fun e => by rw [e]; exact kitAny_nil) (fun e => by rw [e]; rfl)
    · exact q _ _ _ (g.trans ((Grow.refl g.bh).laid hp)) rfl
/-- a part of a list, of a tuple: x[:n] -/
theorem cut_to {xs : List V} {n : Nat} : cutV xs none (some (n : Int)) = xs.take n := by
  unfold cutV
  rw [HT.sIx_none, HT.sIx_nat]
  show (xs.drop 0).take (min n xs.length - 0) = _
  rw [List.drop_zero, Nat.sub_zero, List.take_eq_take_iff]
  omega
theorem cut_from {xs : List V} {n : Nat} : cutV xs (some (n : Int)) none = xs.drop n := by
  unfold cutV
  rw [HT.sIx_none, HT.sIx_nat]
  by_cases h : n ≤ xs.length
  · rw [Nat.min_eq_left h, List.take_of_length_le]
    rw [List.length_drop]
    exact Nat.le_refl _
  · have h' : xs.length ≤ n := by omega
    rw [Nat.min_eq_right h', List.drop_length, List.drop_of_length_le h', List.take_nil]
theorem items_take {B : Hp} {xs : List V} (n : Nat) (h : Items R as B xs) : Items R (as.take n) B (xs.take n) := by
  have go : ∀ {xs : List V} {as : List α} (n : Nat), Paired (R B) xs as → Paired (R B) (xs.take n) (as.take n) := fun {xs as} n h => by
    induction h generalizing n with
    | nil => rw [List.take_nil, List.take_nil]; exact .nil
    | cons h t ih =>
      cases n with
      | zero => exact .nil
      | succ n => exact .cons h (ih n)
  exact go n h
theorem items_drop {B : Hp} {xs : List V} (n : Nat) (h : Items R as B xs) : Items R (as.drop n) B (xs.drop n) := by
  have go : ∀ {xs : List V} {as : List α} (n : Nat), Paired (R B) xs as → Paired (R B) (xs.drop n) (as.drop n) := fun {xs as} n h => by
    induction h generalizing n with
    | nil => rw [List.drop_nil, List.drop_nil]; exact .nil
    | cons h t ih =>
      cases n with
      | zero => exact .cons h t
      | succ n => exact ih n
  exact go n h
theorem rslL_to [MonoR R] {B H : Hp} {v : V} {n : Nat} (bh : Ex B H) (h : LsOf K R as B v) {Q : VK} (q : ∀ w B' H', Grow B H B' H' → LsOf K R (as.take n) B' w → Q w H') : rSlL K v none (some (n : Int)) H Q := by
  obtain ⟨p, xs, rfl, s, it⟩ := h
  refine ⟨p, xs, rfl, ex_l bh (sq_of s), fun l hl => ?_⟩
  rw [cut_to]
  exact q _ _ _ ((Grow.refl bh).laid hl) ⟨l, _, rfl, upd_same, Mono.up (P := Items R _) (Ex.new bh.l (ex_none bh hl)) (items_take n it)⟩
end
end Pw

set_option Elab.async false
set_option linter.all false
set_option maxRecDepth 100000
set_option maxHeartbeats 2000000
namespace Pw
open PySem PySem.Spec PySem.W L2
open PyProof.Rows hiding St
open Evl (sq_of st_of)
variable [Tbs]
/-! ### 15. a new instance and its __init__ -/
def delA (H : Hp) (a : Addr) : Hp := fun b => if b = a then none else H b
theorem delA_same {H : Hp} {a : Addr} : delA H a a = none := if_pos rfl
theorem delA_ne {H : Hp} {a b : Addr} (h : b ≠ a) : delA H a b = H b := if_neg h
theorem delA_some {H : Hp} {a b : Addr} {o : HO} (h : delA H a b = some o) : b ≠ a ∧ H b = some o := by
  by_cases e : b = a
  · subst e; rw [delA_same] at h; cases h
  · rw [delA_ne e] at h; exact ⟨e, h⟩
/-- what an __init__ promises: R tells, of its arguments, which attributes the instance has at its end; it stands for good then -/
def Ctor (C : Addr) (R : Hp → List V → (Hp → List (Str × V) → Prop) → Prop) : Sp := fun vs H Q _ => ∃ x dx us B P, vs = .ref x :: us ∧ Ex B H ∧ H x = some (.ins C dx []) ∧ B x = none ∧ R B us P ∧
  ∀ B' H', Grow B (delA H x) B' H' → (∃ fs, B' x = some (.ins C dx fs) ∧ P B' fs) → Q .non H'
section
variable {K : PySem.W.Frag} {te : TE} {tr : TA} {σ : L2.St} {B B' B0 H0 H H1 : Hp} {A : Hp → List V → Prop} {C x dx : Addr} {dvs : List V} {E : XK} {R : Hp → List V → (Hp → List (Str × V) → Prop) → Prop} {P : Hp → List (Str × V) → Prop} {D : Ends} {tz : TS} {f : Str} {fs : List (Str × V)} {v : V} {Pv : Hp → V → Prop} {o o' : HO} {l : Addr}
/-- a made one -/
def Made (C : Addr) (P : Hp → List (Str × V) → Prop) : Hp → V → Prop := fun B v => ∃ x dx fs, v = .ref x ∧ B x = some (.ins C dx fs) ∧ P B fs
theorem Tb.del {X : Hp} {x : Addr} {o : HO} (t : Tb X) (h : X x = some o) (n : PO o) : Tb (delA X x) := fun q hq => by
  obtain ⟨ps, h1, h2, h3⟩ := t q hq
  have np : q.1 ≠ x := fun z => by
    rw [z, h] at h1
    exact n.1 ps (Option.some.inj h1)
  refine ⟨ps, by rw [delA_ne np]; exact h1, h2, fun pos cv hc => ?_⟩
  obtain ⟨c, e1, e2⟩ := h3 pos cv hc
  have nc : c ≠ x := fun z => by
    rw [z, h] at e2
    exact n.2 _ _ (Option.some.inj e2)
  exact ⟨c, e1, by rw [delA_ne nc]; exact e2⟩
theorem Ex.del {X : Hp} {x : Addr} {o : HO} (t : Tb X) (h : X x = some o) (n : PO o) : Ex (delA X x) X := ⟨fun _ _ e _ => (delA_some e).2, fun _ ps e => ⟨ps, (delA_some e).2⟩, t.del h n, t⟩
theorem make_grow {x dx : Addr} {fs : List (Str × V)} (bh : Ex B H) (hx : H x = none) (hdx : H dx = none) (n : dx ≠ x) {H2 B2 : Hp} (g : Grow B (delA (upd (upd H dx (.own x)) x (.ins C dx fs)) x) B2 H2) : Grow B H B2 H2 := by
  have e : ∀ a o, H a = some o → delA (upd (upd H dx (.own x)) x (.ins C dx fs)) x a = some o := fun a o h => by
    rw [delA_ne (ne_of_none h hx), upd_ne (ne_of_none h hx), upd_ne (ne_of_none h hdx)]
    exact h
  refine ⟨g.b, g.bh, ⟨fun a o h n => g.h.at_ a o (e a o h) n, fun a ps h => g.h.tab a ps (e a _ h), bh.r, g.h.r⟩, fun a o h => ?_⟩
  rcases g.new a o h with z | z
  · exact .inl z
  · cases q : H a with
    | none => exact .inr rfl
    | some u => rw [e a u q] at z; cases z
theorem ex_make {x dx : Addr} {fs : List (Str × V)} (bh : Ex B H) (hx : H x = none) (hdx : H dx = none) (n : dx ≠ x) : Ex B (upd (upd H dx (.own x)) x (.ins C dx fs)) :=
  (bh.mutN (ex_none bh hdx) hdx).mutN (ex_none bh hx) (by rw [upd_ne n.symm]; exact hx)
theorem evp_make (h : EvA tr σ B A) (k : ∀ B' vs, Ex B B' → A B' vs → R B' (vs ++ dvs) P) : EvP (tMake C (Ctor C R) dvs E tr) σ B (Made C P) := fun H bh Q q => h H bh _ fun vs B1 H1 g p x dx hx hdx n =>
  ⟨x, dx, vs ++ dvs, B1, P, rfl, ex_make g.bh hx hdx n, upd_same, ex_none g.bh hx, k B1 vs g.b p, fun B2 H2 g2 ⟨fs, h1, h2⟩ => ⟨rfl, q _ B2 H2 (g.trans (make_grow g.bh hx hdx n g2)) ⟨x, dx, fs, rfl, h1, h2⟩⟩⟩
theorem evp_makeK {n m : Nat} {gV : List V → List V → List V} {tk : TA} {A2 : Hp → List V → Prop} [Mono A] (h : EvA tr σ B A) (h2 : ∀ B', Ex B B' → EvA tk σ B' A2) (k : ∀ B' vs zs, Ex B B' → A B' vs → A2 B' zs → vs.length = n ∧ zs.length = m ∧ ∀ x, ∃ us, gV (.ref x :: vs) zs = .ref x :: us ∧ R B' us P) :
    EvP (tMakeK C n m (Ctor C R) gV E tr tk) σ B (Made C P) := fun H bh Q q => h H bh _ fun vs B0 H0 g0 p0 => h2 B0 g0.b H0 g0.bh _ fun zs B1 H1 g1 p1 => by
  have g := g0.trans g1
  obtain ⟨l1, l2, ku⟩ := k B1 vs zs g.b (Mono.up g1.b p0) p1
  refine ⟨l1, l2, fun x dx hx hdx n => ?_⟩
  obtain ⟨us, e1, r1⟩ := ku x
  exact ⟨x, dx, us, B1, P, e1, ex_make g.bh hx hdx n, upd_same, ex_none g.bh hx, r1, fun B2 H2 g2 ⟨fs, h1, h2⟩ => ⟨rfl, q _ B2 H2 (g.trans (make_grow g.bh hx hdx n g2)) ⟨x, dx, fs, rfl, h1, h2⟩⟩⟩
/-- the start of an __init__'s body -/
theorem ctor_start (bh : Ex B H) (hx : H x = some (.ins C dx [])) (nb : B x = none) : Grow B (delA H x) B H ∧ Cell (delA H x) B H x (.ins C dx []) :=
  ⟨⟨Ex.refl bh.l, bh, Ex.del bh.r hx po_ins, fun a o h => .inl h⟩, hx, nb, delA_same, po_ins⟩
/-- more in H alone -/
theorem Grow.ext (g : Grow B0 H0 B H) (e : Ex H H1) : Grow B0 H0 B H1 := ⟨g.b, g.bh.trans e, g.h.trans e, g.new⟩
theorem Cell.ext (c : Cell H0 B H l o) (e : Ex H H1) : Cell H0 B H1 l o := ⟨e.at_ _ _ c.at_ c.po.1, c.nb, c.n0, c.po⟩
/-- self.f = e (self in slot j, mine) -/
theorem s_fld {j : Nat} (g : Grow B0 H0 B H) (cx : Cell H0 B H x (.ins C dx fs)) (hs : σ[j]? = some (some (.ref x))) (c : Cls K C) (n : NoAttr K C f) (hl : fs.length < 1000) (h : EvP te σ B Pv)
    (k : ∀ v B' H', Grow B0 H0 B' H' → Grow B H B' H' → Cell H0 B' (upd H' x (.ins C dx (putF f v fs))) x (.ins C dx (putF f v fs)) → Grow B0 H0 B' (upd H' x (.ins C dx (putF f v fs))) → Pv B' v → D.nx σ (upd H' x (.ins C dx (putF f v fs)))) : sFld K (tVar j) te f D σ H :=
  h H g.bh _ fun v B' H' g' p => ⟨.ref x, hs, x, C, dx, fs, rfl, (cx.grow g').at_, c, n, hl, k v B' H' (g.trans g') g' (cx.grow g').set ((g.trans g').mut (cx.grow g')) p⟩
theorem q_fld {j : Nat} (g : Grow B0 H0 B H) (cx : Cell H0 B H x (.ins C dx fs)) (hs : σ[j]? = some (some (.ref x))) (c : Cls K C) (n : NoAttr K C f) (hl : fs.length < 1000) (h : EvP te σ B Pv)
    (k : ∀ v B' H', Ex B B' → Grow B0 H0 B' H' → Cell H0 B' H' x (.ins C dx (putF f v fs)) → Pv B' v → tz D σ H') : tSeq (sFld K (tVar j) te f) tz D σ H :=
  s_fld (D := { D with nx := tz D }) g cx hs c n hl h fun v B' H' _ g' c' g2 p => k v B' _ g'.b g2 c' p
/-- a statement's start: e is told, then the rest -/
theorem q_asg {i : Nat} (g : Grow B0 H0 B H) (h : EvP te σ B Pv) (k : ∀ v B' H', Grow B0 H0 B' H' → Grow B H B' H' → Pv B' v → tz D (σ.set i (some v)) H') : tSeq (tAsg te (gName i)) tz D σ H :=
  h H g.bh _ fun v B' H' g' p => k v B' H' (g.trans g') g' p
theorem q_unless {tt : TT} {tu : TS} (g : Grow B0 H0 B H) (h : EvT tt σ B false) (k : ∀ B' H', Grow B0 H0 B' H' → Grow B H B' H' → tz D σ H') : tSeq (tIfS tt tu tNext) tz D σ H :=
  h H g.bh _ fun B' H' g' => iteF (k B' H' (g.trans g') g')
/-- an attribute that is read off what is mine: by all of H -/
theorem evv_fldH {j : Nat} (hx : H x = some (.ins C dx fs)) (hs : σ[j]? = some (some (.ref x))) (c : Cls K C) (n : NoAttr K C f) (l : fs.lookup f = some v) : EvV (tFld K (tVar j) f) σ H v := evv_fld (evv_var hs) hx c n l
/-- of H alone: what stands for good stays -/
theorem q_asgH {i : Nat} (g : Grow B0 H0 B H) (h : EvV te σ H v) (k : ∀ H', Ex H H' → Grow B0 H0 B H' → tz D (σ.set i (some v)) H') : tSeq (tAsg te (gName i)) tz D σ H :=
  h H (Ex.refl g.bh.r) _ fun w B' H' g' p => by cases p; exact k H' g'.h (g.ext g'.h)
end
/-! ### 16. dicts that stand for good -/
section
variable {K : PySem.W.Frag} {td ty : TE} {σ : L2.St} {B : Hp} {a : Addr} {kvs : List (Key × V)} {k : Key} {v : V}
theorem evp_dget {P : Hp → V → Prop} [Mono P] (hd : EvV td σ B (.ref a)) (ha : B a = some (.dK kvs)) (hk : EvV ty σ B (kV k)) (hv : valV kvs k = some v) (p : P B v) : EvP (tDGet td ty) σ B P := fun H bh Q q => hd H bh _ fun w B1 H1 g1 e => by
  cases e
  exact hk.mono g1.b H1 g1.bh _ fun w B2 H2 g2 e => by
    cases e
    exact ⟨a, v, rfl, hv ▸ DGet.k ((g1.trans g2).bh _ _ ((g1.trans g2).b _ _ ha)), q v B2 H2 (g1.trans g2) (Mono.up (g1.trans g2).b p)⟩
theorem evv_din (hd : EvV td σ B (.ref a)) (ha : B a = some (.dK kvs)) (hk : EvV ty σ B (kV k)) : EvV (tDIn ty td) σ B (.bl (valV kvs k).isSome) := fun H bh Q q => hk H bh _ fun w B1 H1 g1 e => by
  cases e
  exact hd.mono g1.b H1 g1.bh _ fun w B2 H2 g2 e => by
    cases e
    exact ⟨a, _, rfl, DGet.k ((g1.trans g2).bh _ _ ((g1.trans g2).b _ _ ha)), q _ B2 H2 (g1.trans g2) rfl⟩
theorem evv_dnotin (hd : EvV td σ B (.ref a)) (ha : B a = some (.dK kvs)) (hk : EvV ty σ B (kV k)) : EvV (tDNotIn ty td) σ B (.bl (!(valV kvs k).isSome)) := fun H bh Q q => hk H bh _ fun w B1 H1 g1 e => by
  cases e
  exact hd.mono g1.b H1 g1.bh _ fun w B2 H2 g2 e => by
    cases e
    exact ⟨a, _, rfl, DGet.k ((g1.trans g2).bh _ _ ((g1.trans g2).b _ _ ha)), q _ B2 H2 (g1.trans g2) rfl⟩
end
/-! ### 17. comprehensions and slices of sequences of either kind -/
section
variable {K : PySem.W.Frag} {α : Type} {R : Rl α} {te th : TE} {σ : L2.St} {B : Hp} {as : List α} {i n : Nat} {v : V}
theorem evi_seqE [MonoR R] (h : EvP te σ B (LsOf K R as) ∨ EvP te σ B (TsOf K R as)) : EvI (fun σ H Rk => iList K te σ H Rk ∨ iTup K te σ H Rk) σ B R as := fun H bh Rk k => by
  rcases h with h | h
  · exact .inl (evi_list h H bh Rk k)
  · exact .inr (evi_tup h H bh Rk k)
theorem evi_seqV [MonoR R] (hv : σ[i]? = some (some v)) (h : SeqOf K R as B v) : EvI (fun σ H Rk => iList K (tVar i) σ H Rk ∨ iTup K (tVar i) σ H Rk) σ B R as := evi_seqE (h.elim (fun h => .inl (evp_var hv h)) fun h => .inr (evp_var hv h))
/-- x[:n] -/
theorem evp_slTo [MonoR R] (hv : σ[i]? = some (some v)) (h : SeqOf K R as B v) (hn : EvV th σ B (.int (n : Int))) (hl : n < as.length) :
    EvP (tSl (fun x lo hi H Q => rSlL K x lo hi H Q ∨ rSlT K x lo hi H Q) (tVar i) tNoPart (tPart th)) σ B (LsOf K R (as.take n)) ∨ EvP (tSl (fun x lo hi H Q => rSlL K x lo hi H Q ∨ rSlT K x lo hi H Q) (tVar i) tNoPart (tPart th)) σ B (TsOf K R (as.take n)) := by
  rcases h with ⟨p, xs, rfl, s, it⟩ | ⟨p, xs, rfl, s, it⟩
  · refine .inl fun H bh Q q => ⟨_, hv, hn H bh _ fun w B1 H1 g e => ⟨n, e, .inl ⟨p, xs, rfl, ex_l (g.b.trans g.bh) (sq_of s), fun l hl => ?_⟩⟩⟩
    rw [cut_to]
    exact q _ _ _ (g.laid hl) ⟨l, _, rfl, upd_same, Mono.up (P := Items R _) (g.b.trans (Ex.new g.bh.l (ex_none g.bh hl))) (items_take n it)⟩
  · have len : xs.length = as.length := Paired.length it
    refine .inr fun H bh Q q => ⟨_, hv, hn H bh _ fun w B1 H1 g e => ⟨n, e, .inr ⟨p, xs, rfl, ex_t (g.b.trans g.bh) s, fun h => ?_, fun l hl => ?_⟩⟩⟩
    · have h2 := h.2
      rw [HT.sIx_nat] at h2
      omega
    · rw [cut_to]
      exact q _ _ _ (g.laid hl) ⟨l, _, rfl, st_of upd_same, Mono.up (P := Items R _) (g.b.trans (Ex.new g.bh.l (ex_none g.bh hl))) (items_take n it)⟩
/-- x[n] -/
theorem evp_ixSeq [MonoR R] {a : α} (hv : σ[i]? = some (some v)) (h : SeqOf K R as B v) (hn : EvV th σ B (.int (n : Int))) (ha : as[n]? = some a) : EvP (tOp (rIx K) (tVar i) th) σ B (fun B' w => R B' w a) := by
  haveI : Mono (fun B' w => R B' w a) := ⟨fun e h => MonoR.up e h⟩
  rcases h with ⟨p, xs, rfl, s, it⟩ | ⟨p, xs, rfl, s, it⟩
  · obtain ⟨x, hx, rx⟩ := paired_get' it ha
    refine evv_op (evv_var hv) hn fun B' e => evr_now (v := x) (fun H bh Q q => .inl ⟨_, _, _, x, rfl, rfl, ex_l (e.trans bh) (sq_of s), ?_, q⟩) (MonoR.up e rx)
    unfold atI
    rw [Evl.ixN_nat (List.getElem?_eq_some_iff.mp hx).1]
    exact hx
  · obtain ⟨x, hx, rx⟩ := paired_get' it ha
    refine evv_op (evv_var hv) hn fun B' e => evr_now (v := x) (fun H bh Q q => .inr (.inl ⟨_, _, _, x, rfl, rfl, ex_t (e.trans bh) s, ?_, q⟩)) (MonoR.up e rx)
    unfold atI
    rw [Evl.ixN_nat (List.getElem?_eq_some_iff.mp hx).1]
    exact hx
theorem lenV_seq {H : Hp} (e : Ex B H) (h : SeqOf K R as B v) : LenV K v H as.length := by
  rcases h with ⟨p, xs, rfl, s, it⟩ | ⟨p, xs, rfl, s, it⟩
  · have len : xs.length = as.length := Paired.length it
    rw [← len]
    exact lenV_lst (ex_l e (sq_of s))
  · have len : xs.length = as.length := Paired.length it
    rw [← len]
    exact lenV_tup (ex_t e s)
end
/-! ### 18. a dict that tells things by their keys -/
structure DMap {α : Type} (R : Rl α) (key : α → Key) (as : List α) (B : Hp) (kvs : List (Key × V)) : Prop where
  keys : kvs.map (·.1) = as.map key
  at_ : ∀ a ∈ as, ∃ v, valV kvs (key a) = some v ∧ R B v a
  no : ∀ k, (∀ a ∈ as, key a ≠ k) → valV kvs k = none
section
variable {α : Type} {R : Rl α} {key : α → Key} {as : List α} {B B' : Hp} {kvs : List (Key × V)}
theorem DMap.nil : DMap R key [] B [] := ⟨rfl, (fun _ h => nomatch h), fun _ _ => rfl⟩
theorem DMap.up [MonoR R] (d : DMap R key as B kvs) (e : Ex B B') : DMap R key as B' kvs := ⟨d.keys, fun a h => let ⟨v, h1, h2⟩ := d.at_ a h; ⟨v, h1, MonoR.up e h2⟩, d.no⟩
theorem DMap.put (d : DMap R key as B kvs) {a : α} {v : V} (n : ∀ b ∈ as, key b ≠ key a) (r : R B v a) : DMap R key (as ++ [a]) B (putK kvs (key a) v) := by
  have h0 : valV kvs (key a) = none := d.no _ n
  refine ⟨?_, fun b hb => ?_, fun k hk => ?_⟩
  · rw [putK_new v h0, List.map_append, List.map_append, d.keys]; rfl
  · rcases List.mem_append.mp hb with hb | hb
    · obtain ⟨u, h1, h2⟩ := d.at_ b hb
      exact ⟨u, by rw [valV_put, if_neg (n b hb)]; exact h1, h2⟩
    · cases List.mem_singleton.mp hb
      exact ⟨v, by rw [valV_put, if_pos rfl], r⟩
  · rw [valV_put, if_neg (fun e => hk a (List.mem_append.mpr (.inr (List.mem_singleton.mpr rfl))) e.symm)]
    exact d.no k fun b hb => hk b (List.mem_append.mpr (.inl hb))
theorem DMap.len (d : DMap R key as B kvs) : kvs.length = as.length := by
  have := congrArg List.length d.keys
  rw [List.length_map, List.length_map] at this
  exact this
end
section
variable {K : PySem.W.Frag} {te : TE} {σ : L2.St} {B B0 H0 H : Hp} {C x dx : Addr} {D : Ends} {tz : TS} {f : Str} {fs : List (Str × V)} {v : V} {tt : TT} {tu : TS}
/-- the same, read off all of H -/
theorem q_unlessH (g : Grow B0 H0 B H) (h : EvT tt σ H false) (k : ∀ H', Ex H H' → Grow B0 H0 B H' → tz D σ H') : tSeq (tIfS tt tu tNext) tz D σ H :=
  h H (Ex.refl g.bh.r) _ fun B' H' g' => iteF (k H' g'.h (g.ext g'.h))
/-- self.f = a new thing of mine -/
theorem q_fldD {j : Nat} (g : Grow B0 H0 B H) (cx : Cell H0 B H x (.ins C dx fs)) (hs : σ[j]? = some (some (.ref x))) (c : Cls K C) (n : NoAttr K C f) (hl : fs.length < 1000)
    (k : ∀ p H', H p = none → p ≠ x → Ex (delA H x) H' → Grow B0 H0 B H' → Cell H0 B H' x (.ins C dx (putF f (.ref p) fs)) → Cell H0 B H' p (.dK []) → tz D σ H') : tSeq (sFld K (tVar j) tDNewK f) tz D σ H := fun p hp => by
  have np : p ≠ x := fun e => by rw [e, cx.at_] at hp; cases hp
  have c1 := cx.new (u := .dK []) hp
  refine ⟨.ref x, hs, x, C, dx, fs, rfl, c1.at_, c, n, hl, k p _ hp np ?_ ((g.cell hp).mut c1) c1.set ((Cell.mk' g hp).other np)⟩
  exact ((Ex.del g.bh.r cx.at_ po_ins).mutN (by rw [delA_ne np]; exact hp) hp).mutS delA_same c1.at_ po_ins
theorem q_fldL {j : Nat} (g : Grow B0 H0 B H) (cx : Cell H0 B H x (.ins C dx fs)) (hs : σ[j]? = some (some (.ref x))) (c : Cls K C) (n : NoAttr K C f) (hl : fs.length < 1000)
    (k : ∀ p H', H p = none → p ≠ x → Ex (delA H x) H' → Grow B0 H0 B H' → Cell H0 B H' x (.ins C dx (putF f (.ref p) fs)) → Cell H0 B H' p (.lst []) → tz D σ H') : tSeq (sFld K (tVar j) (tLst tNil) f) tz D σ H := ⟨Nat.zero_le _, fun p hp => by
  have np : p ≠ x := fun e => by rw [e, cx.at_] at hp; cases hp
  have c1 := cx.new (u := .lst []) hp
  refine ⟨.ref x, hs, x, C, dx, fs, rfl, c1.at_, c, n, hl, k p _ hp np ?_ ((g.cell hp).mut c1) c1.set ((Cell.mk' g hp).other np)⟩
  exact ((Ex.del g.bh.r cx.at_ po_ins).mutN (by rw [delA_ne np]; exact hp) hp).mutS delA_same c1.at_ po_ins⟩
/-- another cell of mine stays through such a store -/
theorem Cell.del {c : Addr} {o : HO} {H1 : Hp} (cc : Cell H0 B H c o) (n : c ≠ x) (e : Ex (delA H x) H1) : Cell H0 B H1 c o := ⟨e.at_ _ _ (by rw [delA_ne n]; exact cc.at_) cc.po.1, cc.nb, cc.n0, cc.po⟩
/-- .. other cells of mine stay -/
theorem q_fldX {Pv : Hp → V → Prop} {j : Nat} (g : Grow B0 H0 B H) (cx : Cell H0 B H x (.ins C dx fs)) (hs : σ[j]? = some (some (.ref x))) (c : Cls K C) (n : NoAttr K C f) (hl : fs.length < 1000) (h : EvP te σ B Pv)
    (k : ∀ v B' H', Ex B B' → (∀ d u, d ≠ x → Cell H0 B H d u → Cell H0 B' H' d u) → Grow B0 H0 B' H' → Cell H0 B' H' x (.ins C dx (putF f v fs)) → Pv B' v → tz D σ H') : tSeq (sFld K (tVar j) te f) tz D σ H :=
  s_fld (D := { D with nx := tz D }) g cx hs c n hl h fun v B' H' _ g' c' g2 p => k v B' _ g'.b (fun d u nd cd => (cd.grow g').other nd) g2 c' p
/-- x = [], x = {} : a new thing of mine -/
theorem q_newL {i : Nat} (g : Grow B0 H0 B H) (k : ∀ p H', H p = none → Ex H H' → Grow B0 H0 B H' → Cell H0 B H' p (.lst []) → tz D (σ.set i (some (.ref p))) H') : tSeq (tAsg (tLst tNil) (gName i)) tz D σ H := ⟨Nat.zero_le _, fun p hp => k p _ hp (Ex.new g.bh.r hp) (g.cell hp) (Cell.mk' g hp)⟩
theorem q_newD {i : Nat} (g : Grow B0 H0 B H) (k : ∀ p H', H p = none → Ex H H' → Grow B0 H0 B H' → Cell H0 B H' p (.dK []) → tz D (σ.set i (some (.ref p))) H') : tSeq (tAsg tDNewK (gName i)) tz D σ H := fun p hp => k p _ hp (Ex.new g.bh.r hp) (g.cell hp) (Cell.mk' g hp)
/-- for, then the rest -/
theorem q_forI {α : Type} {R : Rl α} {as : List α} {wi : TI} {gt : TG} {tb : TS} (h : EvI wi σ B R as) (bh : Ex B H) (Pv : Nat → L2.St → Hp → Hp → Prop) (h0 : ∀ B1 H1, Grow B H B1 H1 → Pv 0 σ B1 H1)
    (hs : ∀ i a v σ' B' H' B2 H2, Ex B B' → Ex B' H' → as[i]? = some a → Pv i σ' B' H' → Grow B' H' B2 H2 → R B2 v a →
      gt v σ' H2 fun σ2 H3 => tb { D with nx := fun σ3 H4 => ∃ B3, Ex B' B3 ∧ Ex B3 H4 ∧ Pv (i + 1) σ3 B3 H4, ct := fun σ3 H4 => ∃ B3, Ex B' B3 ∧ Ex B3 H4 ∧ Pv (i + 1) σ3 B3 H4, bk := tz D } σ2 H3)
    (hd : ∀ σ' B' H', Ex B B' → Ex B' H' → Pv as.length σ' B' H' → tz D σ' H') : tSeq (tFor wi gt tb) tz D σ H := s_forI (D := { D with nx := tz D }) h bh Pv h0 hs hd
/-- l.append(e) of mine -/
theorem q_app {Pv : Hp → V → Prop} {l : Addr} {ys : List V} {j : Nat} (g : Grow B0 H0 B H) (cl : Cell H0 B H l (.lst ys)) (hv : σ[j]? = some (some (.ref l))) (h : EvP te σ B Pv) (hz : ys.length ≤ 1000000)
    (k : ∀ v B' H', Ex B B' → (∀ d u, d ≠ l → Cell H0 B H d u → Cell H0 B' H' d u) → Grow B0 H0 B' H' → Cell H0 B' H' l (.lst (ys ++ [v])) → Pv B' v → tz D σ H') : tSeq (tDrop (tBM K "list" rAppend (tVar j) (tCons te tNil))) tz D σ H :=
  ⟨_, hv, .inl ⟨rfl, ys, sq_of cl.at_⟩, h H g.bh _ fun v B' H' g' p => ⟨l, ys, v, rfl, rfl, (cl.grow g').at_, Nat.lt_of_le_of_lt hz (by decide), k v B' _ g'.b (fun d u nd cd => (cd.grow g').other nd) ((g.trans g').mut (cl.grow g')) (cl.grow g').set p⟩⟩
theorem s_app {Pv : Hp → V → Prop} {l : Addr} {ys : List V} {j : Nat} (g : Grow B0 H0 B H) (cl : Cell H0 B H l (.lst ys)) (hv : σ[j]? = some (some (.ref l))) (h : EvP te σ B Pv) (hz : ys.length ≤ 1000000)
    (k : ∀ v B' H', Ex B B' → (∀ d u, d ≠ l → Cell H0 B H d u → Cell H0 B' H' d u) → Grow B0 H0 B' H' → Cell H0 B' H' l (.lst (ys ++ [v])) → Pv B' v → D.nx σ H') : tDrop (tBM K "list" rAppend (tVar j) (tCons te tNil)) D σ H :=
  ⟨_, hv, .inl ⟨rfl, ys, sq_of cl.at_⟩, h H g.bh _ fun v B' H' g' p => ⟨l, ys, v, rfl, rfl, (cl.grow g').at_, Nat.lt_of_le_of_lt hz (by decide), k v B' _ g'.b (fun d u nd cd => (cd.grow g').other nd) ((g.trans g').mut (cl.grow g')) (cl.grow g').set p⟩⟩
/-- l.extend(e) of mine -/
theorem s_ext {α : Type} {R : Rl α} {as : List α} {l : Addr} {ys : List V} {j : Nat} (g : Grow B0 H0 B H) (cl : Cell H0 B H l (.lst ys)) (hv : σ[j]? = some (some (.ref l))) (h : EvP te σ B (LsOf K R as)) (hz : ys.length + as.length ≤ 1000000)
    (k : ∀ zs B' H', Ex B B' → (∀ d u, d ≠ l → Cell H0 B H d u → Cell H0 B' H' d u) → Grow B0 H0 B' H' → Cell H0 B' H' l (.lst (ys ++ zs)) → Items R as B' zs → D.nx σ H') : tDrop (tBM K "list" rExtend (tVar j) (tCons te tNil)) D σ H :=
  ⟨_, hv, .inl ⟨rfl, ys, sq_of cl.at_⟩, h H g.bh _ fun v B' H' g' ⟨p, zs, e, s, it⟩ => by
    subst e
    have len : zs.length = as.length := Paired.length it
    exact ⟨l, p, ys, zs, rfl, rfl, (cl.grow g').at_, g'.bh _ _ s, Nat.le_trans (by omega) (show 1000000 ≤ sizeLine by decide), k zs B' _ g'.b (fun d u nd cd => (cd.grow g').other nd) ((g.trans g').mut (cl.grow g')) (cl.grow g').set it⟩⟩
/-- an expression alone -/
theorem s_dropE {Pa : Hp → V → Prop} (g : Grow B0 H0 B H) (h : EvP te σ B Pa) (k : ∀ v B' H', Grow B H B' H' → Grow B0 H0 B' H' → Pa B' v → D.nx σ H') : tDrop te D σ H := h H g.bh _ fun v B' H' g' p => k v B' H' g' (g.trans g') p
theorem flat_len_le {α β : Type} {as : List α} {f : α → List β} {m : Nat} (h : ∀ a ∈ as, (f a).length ≤ m) : (as.flatMap f).length ≤ as.length * m := by
  induction as with
  | nil => simp
  | cons a r ih =>
    rw [List.flatMap_cons, List.length_append, List.length_cons, Nat.succ_mul]
    have := h a List.mem_cons_self
    have := ih fun b hb => h b (List.mem_cons_of_mem _ hb)
    omega
end
end Pw

set_option Elab.async false
set_option linter.all false
set_option maxRecDepth 100000
set_option maxHeartbeats 2000000
namespace Pw
open PySem PySem.Spec PySem.W PySem.Calls L2
open PyProof.Rows hiding St
open Evl (sq_of st_of)
variable [Tbs]
/-! ### 18. sorted(t), t a tuple; sorted(x, key=f) of nothing -/
section
variable {prog : Program} {w : World} {A : Around} {E : Value → Shared → Prop} {s : Shared}
theorem collect_tup {l : Addr} {vs : List Value} {Q : List Value → Shared → Prop} (hl : IsTup s.heap l vs.toArray)
    (h : Q vs { s with heap := (s.heap.push (seqObj "list" #[] 0)).update s.heap.objs.size (Obj.mapSeq (· ++ vs.toArray)) }) (hsz : vs.length ≤ sizeLine) :
    wpAny (model prog w) A (collect (.ref l)) Q E s := by
  obtain ⟨o, ho, hc, n, hd⟩ := id hl
  unfold collect
  refine wpAny_bind (wpAny_runValue (codeAny_builtin entry_proto_collect' ?_))
  show wpAny _ _ (do again (.builtin "list.__iadd__" ⟨[← newList [], .ref l], []⟩)) _ _ s
  refine wpAny_bind (wpAny_newList (wpAny_pure ⟨Code.quiet_builtin _ (by decide +kernel), codeAny_builtin entry_list_iadd' ?_⟩))
  show wpAny _ _ (Builtin.List.listExtendWith (.ref s.heap.objs.size) (.ref l) (.ref s.heap.objs.size)) _ _ { s with heap := s.heap.push (seqObj "list" #[] 0) }
  unfold Builtin.List.listExtendWith
  have ho' : (s.heap.push (seqObj "list" #[] 0)).get? l = some o := Heap.get?_push_of_some _ ho
  refine wpAny_bind (wpAny_typeOf (T := "tuple") ⟨o, ho', hc⟩ ?_)
  have ht : (Value.type "tuple" == Value.type "tuple") = true := by rfl
  rw [if_pos (by rw [ht]; simp)]
  refine wpAny_bind (listItems_at ho' hd ?_)
  refine wpAny_bind (listItems_at (xs := #[]) (n := 0) (Heap.get?_push_size _ rfl) rfl ?_)
  rw [if_neg (by simp)]
  refine wpAny_bind (listUpdate_at (xs := #[]) (n := 0) (Heap.get?_push_size _ rfl) rfl ?_ (Nat.zero_le _) (by show (#[] ++ vs.toArray).size ≤ sizeLine + 1; simp only [Array.size_append, List.size_toArray, List.length_nil]; omega))
  refine wpAny_pure ?_
  show wpAny (model prog w) A (do
      let o ← load s.heap.objs.size
      match o.data with
      | .seq xs _ => pure xs.toList
      | _ => unsupported "internal:collect") Q E { s with heap := (s.heap.push (seqObj "list" #[] 0)).update s.heap.objs.size (Obj.mapSeq (· ++ vs.toArray)) }
  refine wpAny_bind (wpAny_load (get?_update_seq (Heap.get?_push_size _ rfl) _) ?_)
  show wpAny _ _ (pure ((#[] : Array Value) ++ vs.toArray).toList) Q E _
  rw [show ((#[] : Array Value) ++ vs.toArray).toList = vs by simp]
  exact wpAny_pure h
/-- what is sorted: a list, or a tuple -/
def IsSq (h : Heap) (l : Addr) (vs : List Value) : Prop := h.IsList l vs.toArray ∨ IsTup h l vs.toArray
theorem collect_sq {l : Addr} {vs : List Value} {Q : List Value → Shared → Prop} (hl : IsSq s.heap l vs)
    (h : Q vs { s with heap := (s.heap.push (seqObj "list" #[] 0)).update s.heap.objs.size (Obj.mapSeq (· ++ vs.toArray)) }) (hsz : vs.length ≤ sizeLine) : wpAny (model prog w) A (collect (.ref l)) Q E s :=
  hl.elim (fun hl => collect_list hl h hsz) fun hl => collect_tup hl h hsz
theorem sorted_of_sortQ {l : Addr} {vs : List Value} {kw : List (Str × Value)} {Q : Value → Shared → Prop} (hl : IsSq s.heap l vs) (hL : vs.length ≤ sizeLine) (ha1 : argsOk "sorted" ⟨[.ref l], kw⟩) (ha2 : ∀ x, argsOk "list.sort" ⟨[.ref x], kw⟩)
    (body : ∀ E' : Value → Shared → Prop, wpAny (model prog w) A.in1.in1 (Builtin.«list.sort» ⟨[.ref (s.heap.objs.size + 1)], kw⟩) (fun f s' => f = .done (.ret .none) ∧ Q (.ref (s.heap.objs.size + 1)) s') E' { s with heap := copyHeap s.heap vs }) :
    wpAny (model prog w) A (call (.builtin "sorted") [.ref l] kw) Q E s := by
  refine call_function_entry_kw kind_sorted plain_sorted entry_sorted ha1 ?_
  unfold Builtin.«sorted»
  refine wpAny_bind (m := checkCount "sorted" 1 1 _) (wpAny_pure ?_)
  refine wpAny_bind (collect_sq hl ?_ hL)
  refine wpAny_bind (wpAny_newList ?_ hL)
  have hsz : ((s.heap.push (seqObj "list" #[] 0)).update s.heap.objs.size (Obj.mapSeq (· ++ vs.toArray))).objs.size = s.heap.objs.size + 1 := by
    rw [Heap.size_update, size_push']
  show wpAny _ _ _ _ _ { s with heap := copyHeap s.heap vs }
  rw [hsz]
  refine wpAny_bind (wpAny_holding (wpAny_call_entry_kw slot_list_sort ⟨_, copyHeap_at s.heap vs, rfl⟩ entry_list_sort ?body (ha2 _)))
  case body =>
    show wpAny (model prog w) A.in1.in1 (Builtin.«list.sort» ⟨[.ref (s.heap.objs.size + 1)], kw⟩) _ _ _
    refine wpAny_mono (body _) (fun f s' hf => ?_) fun _ _ e => e
    obtain ⟨rfl, hq⟩ := hf
    exact ⟨_, rfl, wpAny_pure ⟨_, rfl, hq⟩⟩
end
section
variable {X : Cx}
theorem sq_is {pins : List (Addr × Obj)} {σ : L2.St} {H : Hp} {s : Shared} {a : Addr} {xs : List V} (I : Inv X pins σ H s) (h : SqL X.K H a xs ∨ SqT X.K H a xs) : ∃ its : List Value, Vals xs its ∧ IsSq s.heap a its ∧ xs.length ≤ sizeLine := by
  rcases h with h | h
  · obtain ⟨its, r, p, z⟩ := I.list h
    exact ⟨its, r, .inl p.isList, z⟩
  · obtain ⟨its, r, p, z⟩ := I.tuple h
    exact ⟨its, r, .inr p, z⟩
/-- sorted(x, key=f) of nothing -/
def rSortedKE (K : PySem.W.Frag) : List V → List V → Hp → VK → Prop := fun vs zs H Q => ∃ (a f : Addr), vs = [.ref a] ∧ zs = [.ref f] ∧ (SqL K H a [] ∨ SqT K H a []) ∧ ∀ p, H p = none → Q (.ref p) (upd H p (.lst []))
theorem cr_sortedKE : CallRK X (.builtin "sorted") [Str.ofString "key"] (rSortedKE X.K) := by
  intro pins s σ H vs zs us ws Q I r rz h
  obtain ⟨a, f, rfl, rfl, hs, q⟩ := h
  obtain rfl := Vals.ref1 r
  obtain ⟨w1, rfl, e1⟩ := vals1 rz
  obtain rfl : w1 = Value.ref f := e1
  obtain ⟨its, rv, hl, _⟩ := sq_is I hs
  cases rv
  refine sorted_of_sortQ hl (Nat.zero_le _) (PyProof.Rows.ksk_s1 _ _) (fun _ => PyProof.Rows.ksk_l1 _ _) fun E' => ?_
  show wpAny _ _ (Builtin.«list.sort» ⟨[Value.ref (s.heap.objs.size + 1)], [(Str.ofString "key", Value.ref f)]⟩) _ _ _
  rw [ksk_t1]
  have fresh : s.heap.get? (s.heap.objs.size + 1) = none := Heap.get?_none_of_le (Nat.le_succ _)
  refine keyH_tree (kz := []) (s := { s with heap := copyHeap s.heap [] }) (copyHeap_at s.heap []) rfl (Nat.zero_le _) (fun d hd => nomatch hd) (.inl fun d hd => nomatch hd) (fun d hd => nomatch hd) (fun i v k h1 _ => by simp at h1) fun h' tk out c kp hD ko => ⟨rfl, ?_⟩
  have e0 : out = [] := List.length_eq_zero_iff.mp (ko.length rfl)
  subst e0
  refine ⟨.ref _, upd H (s.heap.objs.size + 1) (.lst []), I.laid (t' := tk) (fun b o q => ?_) (Nat.le_succ _) ⟨Nat.zero_le _, [], c, .nil, hD⟩, rfl, q _ (I.hok.fresh (Nat.le_succ _))⟩
  exact kp b o (Nat.ne_of_lt (Nat.lt_succ_of_lt (Heap.lt_size q))) (copyHeap_old q)
end
section
variable {K : PySem.W.Frag} {α : Type} {R : Rl α} {ta tf : TE} {σ : L2.St} {B : Hp} {fa : Addr}
theorem evp_sortedKE [MonoR R] (ha : EvP ta σ B (SeqOf K R ([] : List α))) (hf : EvV tf σ B (.ref fa)) : EvP (tCKw (rSortedKE K) (tCons ta tNil) (tCons tf tNil)) σ B (LsOf K R ([] : List α)) := fun H bh Q q =>
  ha H bh _ fun v B1 H1 g1 p1 => hf.mono g1.b H1 g1.bh _ fun w B2 H2 g2 e => by
    cases e
    have p2 := Mono.up (P := SeqOf K R ([] : List α)) g2.b p1
    rcases p2 with ⟨p, xs, rfl, s, it⟩ | ⟨p, xs, rfl, s, it⟩
    · cases it
      exact ⟨p, fa, rfl, rfl, .inl (ex_l g2.bh (sq_of s)), fun l hl => q _ _ _ ((g1.trans g2).laid hl) ⟨l, [], rfl, upd_same, .nil⟩⟩
    · cases it
      exact ⟨p, fa, rfl, rfl, .inr (ex_t g2.bh s), fun l hl => q _ _ _ ((g1.trans g2).laid hl) ⟨l, [], rfl, upd_same, .nil⟩⟩
end
end Pw

set_option Elab.async false
set_option linter.all false
set_option maxRecDepth 100000
set_option maxHeartbeats 2000000
namespace Pw
open PySem PySem.Spec PySem.W PySem.Calls L2
open PyProof.Rows hiding St
/-! ### 19. the rules with K told (for a comprehension's block) -/
section
variable {X : Cx} {K : PySem.W.Frag} {e a b l tg : Expr} {f : Str} {pos : Pos} {ta tb tl te : TE}
theorem pe_fldK (hK : X.K = K) (he : PE X e ta) (hb : attributeBase e f X.env (eval e X.env) = eval e X.env) : PE X (.Attribute e f pos) (tFld K ta f) := hK ▸ pe_fld he hb
theorem pg_tupK {es : List Expr} {k : Nat} {t : TGs} {n : Nat} (hK : X.K = K) (hc : X.calm = true) (h : PGs X es t) (hn : (assignEach es X.env).length = n := by rfl) (hst : (assignEach es X.env).findIdx? (·.1) = none := by rfl) : PG X (.Tuple es k pos) (gTup K n t) := hK ▸ pg_tup hc h hn hst
theorem ix_listK (hK : X.K = K) : IxR X (rIxL K) := hK ▸ ix_list
theorem ix_tupK (hK : X.K = K) : IxR X (rIxT K) := hK ▸ ix_tup
theorem ix_seqK (hK : X.K = K) : IxR X (rIx K) := hK ▸ ix_seq
theorem pi_listK (hK : X.K = K) (hl : PE X l tl) : PI X tg l (iList K tl) := hK ▸ pi_list hl
theorem pi_tupK (hK : X.K = K) (hl : PE X l tl) : PI X tg l (iTup K tl) := hK ▸ pi_tup hl
theorem call_lenK (hK : X.K = K) : CallR X (.builtin "len") (fun xs H Q => ∃ x n, xs = [x] ∧ LenV K x H n ∧ Q (.int n) H) := hK ▸ call_len
theorem op_in_seqK (hK : X.K = K) : OpR X (compareOp .In) (rIn K false) := hK ▸ op_in_seq
theorem op_notIn_seqK (hK : X.K = K) : OpR X (compareOp .NotIn) (rIn K true) := hK ▸ op_notIn_seq
theorem op_eqDK (hK : X.K = K) (hu : X.A.units + 64 < cLine) : OpR X (compareOp .Eq) (rEqD K) := hK ▸ op_eqD hu
theorem op_neDK (hK : X.K = K) (hu : X.A.units + 64 < cLine) : OpR X (compareOp .NotEq) (rNeD K) := hK ▸ op_neD hu
theorem sl_listK (hK : X.K = K) : SlR X (rSlL K) := hK ▸ sl_list
theorem sl_tupK (hK : X.K = K) : SlR X (rSlT K) := hK ▸ sl_tup
theorem op_catTK (hK : X.K = K) : OpR X (binaryOp .Add) (rCatT K) := hK ▸ op_catT
end
end Pw

set_option Elab.async false
set_option linter.all false
set_option maxRecDepth 100000
set_option maxHeartbeats 2000000
namespace Pw
open PySem PySem.Spec PySem.W L2
open PyProof.Rows hiding St
open Evl (sq_of st_of)
open LamX (CodeO Tabs TabS TabB)
variable [Tbs]
/-! ### 20. a lambda of parameters, without captured names -/
/-- the function object of such a lambda -/
def LamO (q : Str) (params : Arguments) (body : Expr) (scope : Scope) (f : Addr) (pm : Value) (c' : Addr) (ctv : Value) : HO := .ext fun h => h.get? f = some (kla_obj "<lambda>" q params body scope [] pm c' ctv)
theorem lamO_nt {q : Str} {params : Arguments} {body : Expr} {scope : Scope} {f : Addr} {pm : Value} {c' : Addr} {ctv : Value} : NT (LamO q params body scope f pm c' ctv) := fun _ z => by
  unfold LamO at z
  cases z
/-- a lambda stands at f -/
structure LamAt (q : Str) (params : Arguments) (body : Expr) (scope : Scope) (H : Hp) (f : Addr) : Prop where
  ex : ∃ pm c' ctv, H f = some (LamO q params body scope f pm c' ctv) ∧ H c' = some (CodeO c' q)
theorem LamAt.up {q : Str} {params : Arguments} {body : Expr} {scope : Scope} {H H' : Hp} {f : Addr} (l : LamAt q params body scope H f) (e : Ex H H') : LamAt q params body scope H' f :=
  let ⟨pm, c', ctv, h1, h2⟩ := l.ex
  ⟨⟨pm, c', ctv, e.at_ _ _ h1 lamO_nt, e.at_ _ _ h2 codeO_nt⟩⟩
def tLamF (q : Str) (params : Arguments) (body : Expr) (scope : Scope) : TE := fun σ H Q => Tb H ∧ ∀ f H1, Ex H H1 → LamAt q params body scope H1 f → Q (.ref f) H1
theorem clo_none {cs : List (Str × Addr)} : ∀ {ns : List (Str × NameKind)} {acc : List (Str × Addr)}, (∀ y ∈ ns, y.2 ≠ .free) → cloFrom cs ns acc = acc
  | [], _, _ => rfl
  | y :: r, acc, h => by
    have h1 : y.2 ≠ .free := h y List.mem_cons_self
    have h2 := clo_none (cs := cs) (ns := r) (acc := acc) fun z hz => h z (List.mem_cons_of_mem _ hz)
    obtain ⟨n, k⟩ := y
    cases k <;> first | exact absurd rfl h1 | exact h2
section
variable {X : Cx} {params : Arguments} {body : Expr} {scope : Scope} {pos : Pos} {c P : Addr}
theorem lay_lam {pins : List (Addr × Obj)} {σ : L2.St} {H : Hp} {s : Shared} {q : Str} {pm ctv : Value} {c' : Addr} (I : Inv X pins σ H s) (tb : Tb H) (hc : H c' = some (CodeO c' q)) (tk : Nat) :
    Inv X pins σ (upd H s.heap.objs.size (LamO q params body scope s.heap.objs.size pm c' ctv)) { s with heap := s.heap.push (kla_obj "<lambda>" q params body scope [] pm c' ctv), toks := tk } ∧
    Ex H (upd H s.heap.objs.size (LamO q params body scope s.heap.objs.size pm c' ctv)) ∧ LamAt q params body scope (upd H s.heap.objs.size (LamO q params body scope s.heap.objs.size pm c' ctv)) s.heap.objs.size := by
  have fresh : H s.heap.objs.size = none := I.hok.fresh (Nat.le_refl _)
  have there : (s.heap.push (kla_obj "<lambda>" q params body scope [] pm c' ctv)).get? s.heap.objs.size = some (kla_obj "<lambda>" q params body scope [] pm c' ctv) := Heap.get?_push_size _ rfl
  refine ⟨I.laid (t' := tk) (fun b u e => Heap.get?_push_of_some _ e) (Nat.le_refl _) ⟨there, ⟨_, there⟩, fun g1 g2 a b => b _ a⟩, Ex.new tb fresh, ⟨⟨pm, c', ctv, upd_same, ?_⟩⟩⟩
  rw [upd_ne (ne_of_none hc fresh)]
  exact hc
theorem pe_lam (TB : TabB X.base X.mg c P) (hcode : X.env.code = .ref c) (hm : (P, X.env.qual ++ "<lambda>") ∈ Tbs.T) (hu : ∀ p ∈ Tbs.T, p.1 = P → p.2 = X.env.qual ++ "<lambda>") (hdef : defaultsOf params X.env = ([], [])) (hfree : ∀ y ∈ scope.names, y.2 ≠ .free) :
    PE X (.Lambda params body scope pos) (tLamF (X.env.qual ++ "<lambda>") params body scope) := by
  refine ⟨fun pins s σ H Q I ⟨tb, k⟩ => ?_⟩
  obtain ⟨ps, hP, tri, among⟩ := tb _ hm
  have clo : cloFrom X.env.cells scope.names [] = [] := clo_none hfree
  have cl0 : closureFor scope X.env = pure [] := by
    have z := closure_ok (scope := scope) (env := X.env) fun y hy e => absurd e (hfree y hy)
    rw [clo] at z
    exact z
  have bP : s.heap.BuiltinsAt X.mg P := TB.bm.keeps I.bk
  have oP : s.heap.get? P = some { cls := .none, data := .fields ps } := I.hok P _ hP
  refine kla_eval hdef ?_
  cases found : codeAmong pos ps.toList with
  | some cv =>
    obtain ⟨c', e1, e2⟩ := among pos cv found
    subst e1
    refine kla_makeFunctionHit (mg := X.mg) (c := c) (P := P) (ps := ps) cl0 I.ok.glob (I.mod.glob.keeps I.bk) hcode (TB.code.keeps I.bk) oP tri found bP fun ctv h' tk kept _ => ?_
    have J : Inv X pins σ H { s with heap := h', toks := tk } := I.kept kept
    obtain ⟨J1, e, l⟩ := lay_lam (params := params) (body := body) (scope := scope) (pm := (X.mg "__name__").getD .none) (ctv := ctv) J tb e2 tk
    exact ⟨.ref _, _, J1, rfl, k _ _ e l⟩
  | none =>
    refine kla_makeFunction (mg := X.mg) (c := c) (P := P) (ps := ps) cl0 I.ok.glob (I.mod.glob.keeps I.bk) hcode (TB.code.keeps I.bk) oP tri found TB.gP bP fun c' ctv h' tk kept young below rec_ tabl => ?_
    obtain ⟨c2, oc, vs, t, z, at_, dat, nam⟩ := rec_
    cases z
    have nC : H c' = none := I.hok.fresh young
    have nPc : P ≠ c' := ne_of_none hP nC
    have J := LamX.inv_table (t' := tk) (more := #[rawInt pos.line, rawInt pos.col, .ref c']) (h' := h') I hP (fun b o hb e => kept b o hb e) tabl young ⟨oc, vs, t, at_, dat, nam⟩
    have eT : (ps ++ #[rawInt pos.line, rawInt pos.col, .ref c']).toList = ps.toList ++ [rawInt pos.line, rawInt pos.col, .ref c'] := by simp
    have same : ∀ b o, H b = some o → NT o → upd (upd H P (.tbl (ps ++ #[rawInt pos.line, rawInt pos.col, .ref c']))) c' (CodeO c' (X.env.qual ++ "<lambda>")) b = some o := fun b o e n => by
      have nb : b ≠ P := fun w => by
        rw [w, hP] at e
        exact n ps (Option.some.inj e).symm
      rw [upd_ne (ne_of_none e nC), upd_ne nb]
      exact e
    have atP : upd (upd H P (.tbl (ps ++ #[rawInt pos.line, rawInt pos.col, .ref c']))) c' (CodeO c' (X.env.qual ++ "<lambda>")) P = some (.tbl (ps ++ #[rawInt pos.line, rawInt pos.col, .ref c'])) := by rw [upd_ne nPc, upd_same]
    have tb1 : Tb (upd (upd H P (.tbl (ps ++ #[rawInt pos.line, rawInt pos.col, .ref c']))) c' (CodeO c' (X.env.qual ++ "<lambda>"))) := fun p hp => by
      by_cases w : p.1 = P
      · rw [hu p hp w, w]
        refine ⟨_, atP, by rw [eT]; exact PySem.TriplesOk_snoc _ _ _ _ tri, fun p' cv hcv => ?_⟩
        rw [eT] at hcv
        rcases LamX.among_app _ tri hcv with y | y
        · obtain ⟨c0, a1, a2⟩ := among p' cv y
          exact ⟨c0, a1, same _ _ a2 codeO_nt⟩
        · exact ⟨c', y, upd_same⟩
      · obtain ⟨qs, a1, a2, a3⟩ := tb p hp
        refine ⟨qs, by rw [upd_ne (ne_of_none a1 nC), upd_ne w]; exact a1, a2, fun p' cv hcv => ?_⟩
        obtain ⟨c0, b1, b2⟩ := a3 p' cv hcv
        exact ⟨c0, b1, same _ _ b2 codeO_nt⟩
    have ex1 : Ex H (upd (upd H P (.tbl (ps ++ #[rawInt pos.line, rawInt pos.col, .ref c']))) c' (CodeO c' (X.env.qual ++ "<lambda>"))) := ⟨same, fun b qs e => by
      by_cases w : b = P
      · exact ⟨_, by rw [w]; exact atP⟩
      · exact ⟨qs, by rw [upd_ne (ne_of_none e nC), upd_ne w]; exact e⟩, tb, tb1⟩
    obtain ⟨J1, e, l⟩ := lay_lam (params := params) (body := body) (scope := scope) (pm := (X.mg "__name__").getD .none) (ctv := ctv) J tb1 (c' := c') (q := X.env.qual ++ "<lambda>") upd_same tk
    exact ⟨.ref _, _, J1, rfl, k _ _ (ex1.trans e) l⟩
end
/-- such a lambda is called -/
theorem lam_run {Pr : Program} {w : World} {K : PySem.W.Frag} {mg : Str → Option Value} {base : Heap} {A : Around} {outer : List Env} {s : Shared} {H : Hp} {q : Str} {params : Arguments} {body : Expr} {scope : Scope} {f c' : Addr} {pm ctv : Value}
    {N ps : List Str} {us : List Value} {vs : List V} {Q : VK} {E : XK} {k : Nat} (hf : H f = some (LamO q params body scope f pm c' ctv)) (hc : H c' = some (CodeO c' q)) (S : FnScope N ps scope) (hr : Room (k + 1) A) (e0 : Env0 Pr w K mg base A outer s H)
    (hb : bindArgs (kla_fn "<lambda>" q params body scope [] pm (.ref c') ctv) ⟨us, []⟩ = pure (ps.zip us)) (r : Vals vs us) (hl : vs.length = ps.length)
    (hbody : Room k (A.deeper (envOfC q scope s.heap.objs.size f (.ref c'))) → ∃ t, PE (cxOf CX0 Pr w K mg base N q scope f (.ref c') A outer s H E) body t ∧ t (L2.start N vs) H Q) :
    codeAny (model Pr w) A (.call (.ref f) ⟨us, []⟩) (CR CX0 outer Pr w H s Q E) s := by
  obtain ⟨of, _, _⟩ := e0.hok f _ hf
  obtain ⟨⟨oc, fs, t0, oo, dd, nn⟩, _, _⟩ := e0.hok c' _ hc
  have lim : s.heap.NoLimit := e0.mod.nolimit.keeps fun b o e => (e0.bs b o e).1
  have kinds : ∀ y ∈ ps.zip us, scope.names.lookup y.1 = some .local ∨ (scope.names.lookup y.1 = some .cell ∧ ((cellsFrom (s.heap.objs.size + 1) scope.names []).lookup y.1).isSome = true) := by
    rintro ⟨n, v⟩ hy
    exact (S.par n (List.of_mem_zip hy).1).imp id fun z => ⟨z, PySem.W.cellsFrom_some _ _ _ (.inl z)⟩
  refine kla_callFunE hr.depth of rfl S.co S.gen rfl ⟨c', oc, fs, t0, rfl, oo, dd, nn⟩ ?_
  rw [hb]
  refine wpAny_pure (wpAny_newFunctionEnv_cells S.kind kinds fun env he s1 x => ?_)
  subst he
  refine ⟨lim.keeps x.toInCall.keep, kla_codeExpr ?_⟩
  obtain ⟨t, ht, hq⟩ := hbody (hr.deeper _)
  refine wpAny_mono (ht.run [] s1 (L2.start N vs) H Q (inv_start S hr.hd e0 hl r x) hq) ?_ fun e s' z => z
  rintro v s' ⟨x', H', J, rv, qv⟩
  exact ⟨x', H', J.os, J.bare, J.base, J.hok, rv, qv⟩
/-! ### 21. min(l, key=lambda) -/
theorem moved_eq {wr : List Addr} {s s' : Shared} (m : Moved wr (fun a b => b = a) s s') : s' = { s with heap := s'.heap, toks := s'.toks } := by
  obtain ⟨h1, h2, h3, h4, h5⟩ := m
  obtain ⟨hp, g, d, tk, os⟩ := s'
  have e1 : g = s.gens := h2
  have e2 : d = s.drawn := h3
  have e3 : os = s.os := h4
  subst e1 e2 e3
  rfl
/-- what a lambda of one parameter tells -/
structure KeyFn (X : Cx) (q : Str) (params : Arguments) (body : Expr) (scope : Scope) (k : Nat) (N : List Str) (y : Str) (te : TE) : Prop where
  sc : FnScope N [y] scope
  bind : ∀ (pm cv ctv u : Value), bindArgs (kla_fn "<lambda>" q params body scope [] pm cv ctv) ⟨[u], []⟩ = pure [(y, u)]
  body : ∀ (A : Around) (outer : List Env) (s : Shared) (H : Hp) (E : XK) (f : Addr) (cv : Value), Room k (A.deeper (envOfC q scope s.heap.objs.size f cv)) → PE (cxOf CX0 X.prog X.w X.K X.mg X.base N q scope f cv A outer s H E) body te
section
variable {X : Cx} {pins : List (Addr × Obj)} {σ : L2.St} {q y : Str} {params : Arguments} {body : Expr} {scope : Scope} {N : List Str} {te : TE} {k : Nat}
/-- the lambda is called with one value, from within a built-in -/
theorem key_call {H : Hp} {s : Shared} {f : Addr} {x : V} {u : Value} {Q : VK} {Z : Value → Shared → Prop} (I : Inv X pins σ H s) (F : KeyFn X q params body scope k N y te) (hr : Room (k + 2) X.A) (l : LamAt q params body scope H f) (r : RelV x u)
    (h : te (L2.start N [x]) H Q) : wpAny (model X.prog X.w) X.A.in1 (call (.ref f) [u]) (fun v s' => EP X pins σ Q v s') Z s := by
  obtain ⟨pm, c', ctv, h1, h2⟩ := l.ex
  have rc : codeAny (model X.prog X.w) X.A.in1 (.call (.ref f) ⟨[u], []⟩) (CR CX0 X.stack X.prog X.w H s Q E0) s :=
    lam_run (N := N) (ps := [y]) (k := k) h1 h2 F.sc hr.in1 I.env0.in1 (F.bind pm (.ref c') ctv u) (.cons r .nil) rfl fun hr' => ⟨te, F.body _ _ _ _ _ _ _ hr', h⟩
  refine wpAny_call (codeAny_mono rc fun out s2 hq => ?_)
  cases out with
  | error e => exact (show False from hq).elim
  | ok fl =>
    cases fl with
    | ret v => exact I.after hq
    | next => exact False.elim hq
    | brk => exact False.elim hq
    | cont => exact False.elim hq
/-- the state ahead of the next draw: the best so far is the i-th, with its key -/
structure Best (X : Cx) (pins : List (Addr × Obj)) (σ : L2.St) (H : Hp) (J B a : Addr) (vs : Array Value) (ds : List PyData) (j i : Nat) (s : Shared) : Prop where
  ex : ∃ H' kv kb vb c, Inv X pins σ H' s ∧ Ex H H' ∧ RelV kv kb ∧ Dp X.K H' kv (ds.getD i .none) ∧ vs[i]? = some vb ∧ s.heap.get? B = some { cls := .type "list", dict := none, data := .seq #[vb, kb] c, slots := #[] } ∧
    (s.heap.IsListIter J a j ∧ s.heap.IsList a vs) ∧ (∀ b ∈ [J, B], FpOk X pins H' b) ∧ J ≠ B ∧ a ≠ B
theorem fp_after {H H' : Hp} {s s' : Shared} {fp : List Addr} (hf : ∀ b ∈ fp, FpOk X pins H b) (ho : ∀ b ∈ fp, ∃ o, s.heap.get? b = some o) (I : Inv X (pins ++ pinsAt fp s.heap) σ H' s') : (∀ b ∈ fp, FpOk X pins H' b) ∧ ∀ b ∈ fp, ∀ o, s.heap.get? b = some o → s'.heap.get? b = some o := by
  have key : ∀ b ∈ fp, ∀ o, s.heap.get? b = some o → s'.heap.get? b = some o ∧ H' b = none := fun b hb o e => by
    have z := I.pin (b, o) (List.mem_append_right _ (List.mem_append_right _ (mem_pinsAt hb e)))
    exact ⟨z.1, z.2.1⟩
  refine ⟨fun b hb => ?_, fun b hb o e => (key b hb o e).1⟩
  obtain ⟨o, e⟩ := ho b hb
  obtain ⟨_, f2, f3, f4, f5, f6⟩ := hf b hb
  exact ⟨(key b hb o e).2, f2, f3, f4, f5, f6⟩
theorem turned_fp {H : Hp} {s : Shared} {h' : Heap} {t' : Nat} {b : Addr} (I : Inv X pins σ H s) (f : FpOk X pins H b) (k : ∀ c o, c ≠ b → s.heap.get? c = some o → h'.get? c = some o) : Inv X pins σ H { s with heap := h', toks := t' } :=
  let ⟨f1, f2, _, f4, f5, f6⟩ := f
  I.turned k f1 f2 f4 f5 f6
theorem vals_refs : ∀ {xs : List V} {us ws : List Value}, (∀ x ∈ xs, ∃ b, x = V.ref b) → Vals xs us → Vals xs ws → us = ws
  | [], us, ws, _, h1, h2 => by cases h1; cases h2; rfl
  | x :: xs, us, ws, hr, h1, h2 => by
    cases h1 with
    | cons a1 t1 => cases h2 with
      | cons a2 t2 =>
        obtain ⟨b, rfl⟩ := hr x List.mem_cons_self
        cases a1
        cases a2
        rw [vals_refs (fun z hz => hr z (List.mem_cons_of_mem _ hz)) t1 t2]
abbrev keyBt (ds : List PyData) : Nat → Nat → Bool := fun i j => dataLt (ds.getD i .none) (ds.getD j .none)
section
variable {H : Hp} {f a J B : Addr} {xs : List V} {vs : Array Value} {ds : List PyData} {R : Result → Shared → Prop}
theorem key_loop (F : KeyFn X q params body scope k N y te) (hr : Room (k + 2) X.A) (hl : SqL X.K H a xs) (hv : Vals xs vs.toList) (refs : ∀ x ∈ xs, ∃ b, x = V.ref b) (lam : LamAt q params body scope H f)
    (W : WalksS X.prog X.w X.A.in1 J [J, a] [J] (fun a b => b = a) vs.size (fun i v => vs[i]? = some v) (fun i s' => s'.heap.IsListIter J a i ∧ s'.heap.IsList a vs))
    (hd : ds.length = xs.length) (al : ∀ x ∈ ds, ∀ y ∈ ds, alike x y = true) (nn : ∀ x ∈ ds, x ≠ .none) (dep : ∀ x ∈ ds, x.depth ≤ 50)
    (keys : ∀ i x H', xs[i]? = some x → Ex H H' → te (L2.start N [x]) H' fun kv H2 => Ex H' H2 ∧ Dp X.K H2 kv (ds.getD i .none))
    (fin : ∀ v s' H', vs[argBest (keyBt ds) (vs.size - 1)]? = some v → Inv X pins σ H' s' → Ex H H' → R (.ok (.ret v)) s') :
    ∀ (r j : Nat) (s : Shared), vs.size - (j + 1) = r → j + 1 ≤ vs.size → Best X pins σ H J B a vs ds (j + 1) (argBest (keyBt ds) j) s → codeAny (model X.prog X.w) X.A (.builtin "min.loop" ⟨[.ref J, .ref f, .ref B], []⟩) R s := by
  have nm : (toString "min" ++ toString ".loop" : String) = "min.loop" := by decide
  have len : vs.size = xs.length := by rw [← Array.length_toList]; exact (Paired.length hv).symm
  have inD : ∀ i, i < vs.size → ds.getD i .none ∈ ds := fun i hi => by
    have hi' : i < ds.length := by omega
    rw [List.getD_eq_getElem?_getD, List.getElem?_eq_getElem hi']
    exact List.getElem_mem hi'
  intro r
  induction r with
  | zero =>
    rintro j s e0 e1 ⟨H', kv, kb, vb, c, I, ex, rk, dk, bv, oB, st, fp, nJB, naB⟩
    have jn : j + 1 = vs.size := by omega
    refine codeAny_builtin PySem.F.entry_min_loop ?_
    rw [Around.under_plainId PySem.F.plain_min_loop _]
    show wpAny _ X.A.in1 (seqItems? (.ref B) >>= _) _ _ s
    refine wpAny_bind (wpAny_seqItems oB rfl ?_)
    show wpAny _ X.A.in1 (tryCatch (pyNext (.ref J)) _ >>= _) _ _ s
    refine wpAny_bind (wpAny_tryCatch (W.done s _ _ (jn ▸ st) fun s1 m => ?_))
    have oB1 := m.heap B _ (fun z => nJB (List.mem_singleton.mp z).symm) oB
    rw [moved_eq m] at oB1 ⊢
    have I1 : Inv X pins σ H' { s with heap := s1.heap, toks := s1.toks } := turned_fp I (fp J List.mem_cons_self) fun b o nb e => m.heap b o (fun z => nb (List.mem_singleton.mp z)) e
    show wpAny _ X.A.in1 (updateSeq B (fun _ => #[]) >>= _) _ _ _
    refine wpAny_bind (wpAny_updateSeq oB1 rfl (wpAny_bind (wpAny_letGo (wpAny_pure ?_))))
    refine fin vb _ H' (by rw [← jn]; exact bv) (turned_fp (t' := s1.toks) I1 (fp B (List.mem_cons_of_mem _ List.mem_cons_self)) fun b o nb e => ?_) ex
    exact (Heap.get?_update_other _ _ (Ne.symm nb)).trans e
  | succ r ih =>
    rintro j s e0 e1 ⟨H', kv, kb, vb, c, I, ex, rk, dk, bv, oB, st, fp, nJB, naB⟩
    have lt : j + 1 < vs.size := by omega
    refine codeAny_builtin PySem.F.entry_min_loop ?_
    rw [Around.under_plainId PySem.F.plain_min_loop _]
    show wpAny _ X.A.in1 (seqItems? (.ref B) >>= _) _ _ s
    refine wpAny_bind (wpAny_seqItems oB rfl ?_)
    show wpAny _ X.A.in1 (tryCatch (pyNext (.ref J)) _ >>= _) _ _ s
    refine wpAny_bind (wpAny_tryCatch (W.item (j + 1) s _ _ lt st fun v s1 at_ st1 m => ?_))
    have oB1 := m.heap B _ (fun z => nJB (List.mem_singleton.mp z).symm) oB
    rw [moved_eq m] at oB1 st1 ⊢
    have I1 : Inv X pins σ H' { s with heap := s1.heap, toks := s1.toks } := turned_fp I (fp J List.mem_cons_self) fun b o nb e => m.heap b o (fun z => nb (List.mem_singleton.mp z)) e
    obtain ⟨oJ, hJ1, hJ2, hJ3⟩ := id st1.1
    have there : ∀ b ∈ [J, B], ∃ o, s1.heap.get? b = some o ∧ ∀ v, o.data ≠ .cell v := fun b hb => by
      rcases List.mem_cons.mp hb with z | z
      · subst z; exact ⟨oJ, hJ1, fun v w => by rw [hJ3] at w; cases w⟩
      · obtain rfl := List.mem_singleton.mp z
        exact ⟨_, oB1, fun v w => by cases w⟩
    have I2 := I1.pinned fp there
    obtain ⟨x, hx, rx⟩ : ∃ x, xs[j + 1]? = some x ∧ RelV x v := by
      have z : vs.toList[j + 1]? = some v := by rw [Array.getElem?_toList]; exact at_
      obtain ⟨w, h1, h2⟩ := paired_get' hv z
      exact ⟨w, h1, h2⟩
    show wpAny _ X.A.in1 (tryCatch (holding [v] (call (.ref f) [v])) _ >>= _) _ _ _
    refine wpAny_bind (wpAny_tryCatch (wpAny_holding (wpAny_mono (key_call I2 F hr (lam.up ex) rx (keys (j + 1) x H' hx ex)) (fun kx s2 he => ?_) fun _ _ z => z)))
    obtain ⟨kw, H2, I3, rw_, ex2, dw⟩ := he
    obtain ⟨fp2, kept⟩ := fp_after fp (fun b hb => let ⟨o, e, _⟩ := there b hb; ⟨o, e⟩) I3
    have I4 := I3.unpinned
    have dk2 : Dp X.K H2 kv (ds.getD (argBest (keyBt ds) j) .none) := dp_up ex2 dk
    obtain ⟨as1, rd1⟩ := Dp.reads I4 _ _ _ dw rw_
    obtain ⟨as2, rd2⟩ := Dp.reads I4 _ _ _ dk2 rk
    have bi : argBest (keyBt ds) j < vs.size := by
      obtain ⟨z, _⟩ := Array.getElem?_eq_some_iff.mp bv
      exact z
    have oB2 := kept B (List.mem_cons_of_mem _ List.mem_cons_self) _ oB1
    have st2 : s2.heap.IsListIter J a (j + 2) ∧ s2.heap.IsList a vs := by
      refine ⟨⟨oJ, kept J List.mem_cons_self _ hJ1, hJ2, hJ3⟩, ?_⟩
      obtain ⟨its, r1, p1, _⟩ := I4.list (ex_l (ex.trans ex2) hl)
      have z := p1.isList
      rw [← vals_refs refs hv r1, Array.toArray_toList] at z
      exact z
    show wpAny _ X.A.in1 (tryCatch (holding [v, kx] (richCompare .Lt kx kb >>= _)) _ >>= _) _ _ _
    refine wpAny_bind (wpAny_tryCatch (wpAny_holding (wpAny_bind (rcLt_alike _ _ X.A.in1 s2 kx kb _ _ rd1 rd2 (al _ (inD _ lt) _ (inD _ bi)) (nn _ (inD _ lt)) ?_ X.prog X.w _ _ ?_))))
    · have h1 := dep _ (inD _ lt)
      have h2 := Nat.min_le_left (ds.getD (j + 1) .none).depth (ds.getD (argBest (keyBt ds) j) .none).depth
      have h3 : X.A.units + 1 + 16 * (k + 1) + 200 < cLine := by have := hr.un; omega
      show X.A.units + 1 + _ < _
      omega
    refine wpAny_bind (wpAny_holding (wpAny_truthy_bool (wpAny_bind (wpAny_letGo (wpAny_pure ?_)))))
    cases hb : dataLt (ds.getD (j + 1) .none) (ds.getD (argBest (keyBt ds) j) .none) with
    | true =>
      have best : argBest (keyBt ds) (j + 1) = j + 1 := by
        show (if dataLt (ds.getD (j + 1) .none) (ds.getD (argBest (keyBt ds) j) .none) then j + 1 else _) = _
        rw [hb]; rfl
      simp only [if_true]
      refine wpAny_bind (wpAny_updateSeq oB2 rfl (wpAny_bind (wpAny_letGo ?_)))
      rw [nm]
      refine wpAny_pure ⟨plainId_quiet PySem.F.plain_min_loop _, ih (j + 1) _ (by omega) lt ⟨H2, kw, kx, v, _, turned_fp (t' := s2.toks) I4 (fp2 B (List.mem_cons_of_mem _ List.mem_cons_self)) fun b o nb e => (Heap.get?_update_other _ _ (Ne.symm nb)).trans e, ex.trans ex2, rw_, by rw [best]; exact dw, by rw [best]; exact at_, Heap.get?_update_self _ oB2 rfl, ⟨?_, ?_⟩, fp2, nJB, naB⟩⟩
      · obtain ⟨o, a1, a2, a3⟩ := st2.1
        exact ⟨o, (Heap.get?_update_other _ _ (Ne.symm nJB)).trans a1, a2, a3⟩
      · obtain ⟨o, a1, a2, a3⟩ := st2.2
        exact ⟨o, (Heap.get?_update_other _ _ (Ne.symm naB)).trans a1, a2, a3⟩
    | false =>
      have best : argBest (keyBt ds) (j + 1) = argBest (keyBt ds) j := by
        show (if dataLt (ds.getD (j + 1) .none) (ds.getD (argBest (keyBt ds) j) .none) then j + 1 else _) = _
        rw [hb]; rfl
      simp only [Bool.false_eq_true, if_false]
      refine wpAny_bind (wpAny_letGo ?_)
      rw [nm]
      exact wpAny_pure ⟨plainId_quiet PySem.F.plain_min_loop _, ih (j + 1) _ (by omega) lt ⟨H2, kv, kb, vb, _, I4, ex.trans ex2, rk, by rw [best]; exact dk2, by rw [best]; exact bv, oB2, st2, fp2, nJB, naB⟩⟩
/-- min(l, key=lambda) of a list of objects -/
theorem key_min {s : Shared} {Q : VK} (I : Inv X pins σ H s) (F : KeyFn X q params body scope k N y te) (hr : Room (k + 2) X.A) (hl : SqL X.K H a xs) (refs : ∀ x ∈ xs, ∃ b, x = V.ref b) (ne : xs ≠ []) (lam : LamAt q params body scope H f)
    (hd : ds.length = xs.length) (al : ∀ x ∈ ds, ∀ y ∈ ds, alike x y = true) (nn : ∀ x ∈ ds, x ≠ .none) (dep : ∀ x ∈ ds, x.depth ≤ 50)
    (keys : ∀ i x H', xs[i]? = some x → Ex H H' → te (L2.start N [x]) H' fun kv H2 => Ex H' H2 ∧ Dp X.K H2 kv (ds.getD i .none)) (tb : Tb H)
    (fin : ∀ x H', xs[argBest (keyBt ds) (xs.length - 1)]? = some x → Ex H H' → Q x H') : wpAny (model X.prog X.w) X.A (call (.builtin "min") [.ref a] [(Str.ofString "key", .ref f)]) (EP X pins σ Q) X.xe s := by
  have nm : (toString "min" ++ toString ".loop" : String) = "min.loop" := by decide
  obtain ⟨its, hv, pl, _⟩ := I.list hl
  have len : its.length = xs.length := (Paired.length hv).symm
  have pos : 0 < its.length := by
    rw [len]
    exact List.length_pos_iff.mpr ne
  have hlA : s.heap.IsList a its.toArray := pl.isList
  have aIn : a < s.heap.objs.size := by
    obtain ⟨o, e, _⟩ := hlA
    exact Heap.lt_size e
  refine PyProof.Rows.kmk_tree PySem.F.kind_min PySem.F.plain_min PySem.F.entry_min (PyProof.Rows.kmk_min_key _ _) ?_
  show wpAny _ X.A.in1 (Builtin.Builtins.bindParams "min" ["key", "default"] 0 ⟨[], [(Str.ofString "key", .ref f)]⟩ >>= _) _ _ s
  refine wpAny_bind (wpAny_of_eq (show Builtin.Builtins.bindParams "min" ["key", "default"] 0 ⟨[], [(Str.ofString "key", .ref f)]⟩ = pure [some (.ref f), none] from rfl) (wpAny_bind (wpAny_pure ?_)))
  refine wpAny_bind (iter_listW (A := X.A.in1) hr.hd hlA fun s2 e2 W st _ _ kept => ?_)
  refine wpAny_bind (wpAny_newObj_type ?_)
  rw [nm]
  have sz2 : s2.heap.objs.size = s.heap.objs.size + 1 := by
    rw [e2]
    exact Heap.size_push _ _
  have J0 : H s.heap.objs.size = none := I.hok.fresh (Nat.le_refl _)
  have B0 : H s2.heap.objs.size = none := I.hok.fresh (by omega)
  have I2 : Inv X pins σ H s2 := by
    rw [e2]
    exact I.kept (t' := s.toks) fun b u e => Heap.get?_push_of_some _ e
  have I3 : Inv X pins σ H { s2 with heap := s2.heap.push { cls := .type "list", dict := none, data := .seq #[] 0, slots := #[] }, toks := s2.toks } := I2.kept fun b u e => Heap.get?_push_of_some _ e
  have fp : ∀ b ∈ [s.heap.objs.size, s2.heap.objs.size], FpOk X pins H b := fun b hb => by
    rcases List.mem_cons.mp hb with z | z
    · rw [z]; exact I.fpOk (Nat.le_refl _) J0
    · rw [List.mem_singleton.mp z]; exact I2.fpOk (Nat.le_refl _) B0
  have nJB : s.heap.objs.size ≠ s2.heap.objs.size := by omega
  have naB : a ≠ s2.heap.objs.size := Nat.ne_of_lt (by rw [sz2]; exact Nat.lt_succ_of_lt aIn)
  refine wpAny_pure ⟨plainId_quiet PySem.F.plain_min_loop _, ?_⟩
  -- the first draw
  have oB : (s2.heap.push { cls := .type "list", dict := none, data := .seq #[] 0, slots := #[] }).get? s2.heap.objs.size = some { cls := .type "list", dict := none, data := .seq #[] 0, slots := #[] } := Heap.get?_push_size _ rfl
  have pos' : 0 < its.toArray.size := by rw [List.size_toArray]; exact pos
  have st3 := W.frame 0 s2 (s2.heap.push { cls := .type "list", dict := none, data := .seq #[] 0, slots := #[] }) s2.toks st (Nat.le_refl _) fun b _ o e => Heap.get?_push_of_some _ e
  refine codeAny_builtin PySem.F.entry_min_loop ?_
  rw [Around.under_plainId PySem.F.plain_min_loop _]
  show wpAny _ X.A.in1 (seqItems? (.ref s2.heap.objs.size) >>= _) _ _ _
  refine wpAny_bind (wpAny_seqItems oB rfl ?_)
  show wpAny _ X.A.in1 (tryCatch (pyNext (.ref s.heap.objs.size)) _ >>= _) _ _ _
  refine wpAny_bind (wpAny_tryCatch (W.item 0 _ _ _ pos' st3 fun v s4 at_ st4 m => ?_))
  have oB4 := m.heap _ _ (fun z => nJB (List.mem_singleton.mp z).symm) oB
  rw [moved_eq m] at oB4 st4 ⊢
  have I4 : Inv X pins σ H { s2 with heap := s4.heap, toks := s4.toks } := turned_fp (s := { s2 with heap := s2.heap.push { cls := .type "list", dict := none, data := .seq #[] 0, slots := #[] }, toks := s2.toks }) I3 (fp _ List.mem_cons_self) fun b o nb e => m.heap b o (fun z => nb (List.mem_singleton.mp z)) e
  obtain ⟨oJ, hJ1, hJ2, hJ3⟩ := id st4.1
  have there : ∀ b ∈ [s.heap.objs.size, s2.heap.objs.size], ∃ o, s4.heap.get? b = some o ∧ ∀ v, o.data ≠ .cell v := fun b hb => by
    rcases List.mem_cons.mp hb with z | z
    · rw [z]; exact ⟨oJ, hJ1, fun v w => by rw [hJ3] at w; cases w⟩
    · rw [List.mem_singleton.mp z]
      exact ⟨_, oB4, fun v w => by cases w⟩
  have I5 := I4.pinned fp there
  have hv' : Vals xs its.toArray.toList := by simpa using hv
  obtain ⟨x, hx, rx⟩ : ∃ x, xs[0]? = some x ∧ RelV x v := by
    have z : its.toArray.toList[0]? = some v := by rw [Array.getElem?_toList]; exact at_
    obtain ⟨w, h1, h2⟩ := paired_get' hv' z
    exact ⟨w, h1, h2⟩
  show wpAny _ X.A.in1 (tryCatch (holding [v] (call (.ref f) [v])) _ >>= _) _ _ _
  refine wpAny_bind (wpAny_tryCatch (wpAny_holding (wpAny_mono (key_call I5 F hr lam rx (keys 0 x H hx (Ex.refl tb))) (fun kx s5 he => ?_) fun _ _ z => z)))
  obtain ⟨kw, H2, I6, rw_, ex2, dw⟩ := he
  obtain ⟨fp2, kept2⟩ := fp_after fp (fun b hb => let ⟨o, e, _⟩ := there b hb; ⟨o, e⟩) I6
  have I7 := I6.unpinned
  have oB5 := kept2 _ (List.mem_cons_of_mem _ List.mem_cons_self) _ oB4
  have lst5 : s5.heap.IsList a its.toArray := by
    obtain ⟨its', r1, p1, _⟩ := I7.list (ex_l ex2 hl)
    have z := p1.isList
    rw [← vals_refs refs hv r1] at z
    exact z
  show wpAny _ X.A.in1 (updateSeq s2.heap.objs.size (fun _ => #[v, kx]) >>= _) _ _ _
  refine wpAny_bind (wpAny_updateSeq oB5 rfl ?_)
  rw [nm]
  refine wpAny_pure ⟨plainId_quiet PySem.F.plain_min_loop _, ?_⟩
  refine key_loop (pins := pins) (σ := σ) (H := H) (ds := ds) (J := s.heap.objs.size) (B := s2.heap.objs.size) F hr hl hv' refs lam W hd al nn dep keys ?_ _ 0 _ rfl pos' ?_
  · intro v' s' H' hv2 J' ex'
    rw [List.size_toArray, len, List.getElem?_toArray] at hv2
    obtain ⟨w, h1, h2⟩ := paired_get' hv hv2
    exact ⟨w, H', J', h2, fin w H' h1 ex'⟩
  · refine ⟨H2, kw, kx, v, _, turned_fp (t' := s5.toks) I7 (fp2 _ (List.mem_cons_of_mem _ List.mem_cons_self)) fun b o nb e => (Heap.get?_update_other _ _ (Ne.symm nb)).trans e, ex2, rw_, dw, at_, Heap.get?_update_self _ oB5 rfl, ⟨?_, ?_⟩, fp2, nJB, naB⟩
    · exact ⟨oJ, (Heap.get?_update_other _ _ (Ne.symm nJB)).trans (kept2 _ List.mem_cons_self _ hJ1), hJ2, hJ3⟩
    · obtain ⟨o, a1, a2, a3⟩ := lst5
      exact ⟨o, (Heap.get?_update_other _ _ (Ne.symm naB)).trans a1, a2, a3⟩
end
end
def rMinKey (K : PySem.W.Frag) (q : Str) (params : Arguments) (body : Expr) (scope : Scope) (N : List Str) (te : TE) : List V → List V → Hp → VK → Prop := fun vs zs H Q => ∃ (a f : Addr) (xs : List V) (ds : List PyData), vs = [.ref a] ∧ zs = [.ref f] ∧ Tb H ∧ SqL K H a xs ∧ (∀ x ∈ xs, ∃ b, x = V.ref b) ∧ xs ≠ [] ∧ LamAt q params body scope H f ∧
  ds.length = xs.length ∧ (∀ x ∈ ds, ∀ y ∈ ds, alike x y = true) ∧ (∀ x ∈ ds, x ≠ .none) ∧ (∀ x ∈ ds, x.depth ≤ 50) ∧ (∀ i x H', xs[i]? = some x → Ex H H' → te (L2.start N [x]) H' fun kv H2 => Ex H' H2 ∧ Dp K H2 kv (ds.getD i .none)) ∧
  ∀ x H', xs[argBest (keyBt ds) (xs.length - 1)]? = some x → Ex H H' → Q x H'
theorem cr_minKey {X : Cx} {q y : Str} {params : Arguments} {body : Expr} {scope : Scope} {N : List Str} {te : TE} {k : Nat} (F : KeyFn X q params body scope k N y te) (hr : Room (k + 2) X.A) : CallRK X (.builtin "min") [Str.ofString "key"] (rMinKey X.K q params body scope N te) := by
  intro pins s σ H vs zs us ws Q I r rz h
  obtain ⟨a, f, xs, ds, rfl, rfl, tb, hl, refs, ne, lam, hd, al, nn, dep, keys, fin⟩ := h
  obtain rfl := Vals.ref1 r
  obtain rfl := Vals.ref1 rz
  exact key_min I F hr hl refs ne lam hd al nn dep keys tb fin
/-- min(l, key=lambda): the first of those of the least key -/
theorem evp_minKey {α : Type} {R : Rl α} {K : PySem.W.Frag} {q : Str} {params : Arguments} {body : Expr} {scope : Scope} {N : List Str} {te ta : TE} {σ : L2.St} {B : Hp} {as : List α} (ad : α → Addr) (enc : α → PyData) (d0 : α) (ha : EvP ta σ B (LsOf K R as)) (hR : ∀ B v a, R B v a → v = .ref (ad a)) (ne : as ≠ [])
    (al : ∀ x ∈ as, ∀ y ∈ as, alike (enc x) (enc y) = true) (nn : ∀ x ∈ as, enc x ≠ .none) (dep : ∀ x ∈ as, (enc x).depth ≤ 50)
    (hk : ∀ B' v a, Ex B B' → a ∈ as → R B' v a → EvP te (L2.start N [v]) B' fun B2 kv => Dp K B2 kv (enc a)) [MonoR R] :
    EvV (tCKw (rMinKey K q params body scope N te) (tCons ta tNil) (tCons (tLamF q params body scope) tNil)) σ B (.ref (ad (as.getD (argBest (keyBt (as.map enc)) (as.length - 1)) d0))) := fun H bh Q qq => ha H bh _ fun v B1 H1 g1 ⟨p, xs, e1, s1, it⟩ => by
  subst e1
  have len : xs.length = as.length := Paired.length it
  refine ⟨g1.bh.r, fun f H2 e2 lam => ⟨p, f, xs, as.map enc, rfl, rfl, e2.r, ex_l e2 (ex_l g1.bh (sq_of s1)), ?_, ?_, lam, by rw [List.length_map, len], ?_, ?_, ?_, ?_, ?_⟩⟩
  · intro x hx
    obtain ⟨i, hi, e⟩ := List.mem_iff_getElem.mp hx
    obtain ⟨a, _, h2⟩ := paired_get it (by rw [List.getElem?_eq_getElem hi, e])
    exact ⟨_, hR _ _ _ h2⟩
  · intro e
    rw [e] at len
    exact ne (List.eq_nil_of_length_eq_zero len.symm)
  · intro x hx y hy
    obtain ⟨b, hb, rfl⟩ := List.mem_map.mp hx
    obtain ⟨c, hc, rfl⟩ := List.mem_map.mp hy
    exact al b hb c hc
  · intro x hx
    obtain ⟨b, hb, rfl⟩ := List.mem_map.mp hx
    exact nn b hb
  · intro x hx
    obtain ⟨b, hb, rfl⟩ := List.mem_map.mp hx
    exact dep b hb
  · intro i x H' hi e3
    obtain ⟨a, h1, h2⟩ := paired_get it hi
    have ed : (as.map enc).getD i .none = enc a := by
      rw [List.getD_eq_getElem?_getD, List.getElem?_map, h1]
      rfl
    rw [ed]
    exact hk B1 x a g1.b (List.mem_of_getElem? h1) h2 H' ((g1.bh.trans e2).trans e3) _ fun kv B2 H3 g3 pk => ⟨g3.h, dp_up g3.bh pk⟩
  · intro x H' hi e3
    rw [len] at hi
    obtain ⟨a, h1, h2⟩ := paired_get it hi
    refine qq _ B1 H' ((g1.ext e2).ext e3) ?_
    show x = _
    rw [List.getD_eq_getElem?_getD, h1]
    exact hR _ _ _ h2
/-! ### 22. min(l, default=v) of ints -/
def rMinDflt (K : PySem.W.Frag) : List V → List V → Hp → VK → Prop := fun vs zs H Q => ∃ (a : Addr) (ns : List Int) (v : V), vs = [.ref a] ∧ zs = [v] ∧ SqL K H a (ns.map V.int) ∧ (ns = [] → Q v H) ∧ ∀ n r, ns = n :: r → Q (.int (r.foldl min n)) H
theorem cr_minDflt {X : Cx} (hc : X.calm = true) (hu : X.A.units + 64 < cLine) : CallRK X (.builtin "min") [Str.ofString "default"] (rMinDflt X.K) := by
  intro pins s σ H vs zs us ws Q I r rz h
  obtain ⟨a, ns, v, rfl, rfl, hl, h0, h1⟩ := h
  obtain rfl := Vals.ref1 r
  obtain ⟨d, rfl, rd⟩ := vals1 rz
  obtain ⟨its, rv, pl, _⟩ := I.list hl
  have dp : DpAll X.K H (ns.map V.int) (ns.map PyData.int) := by
    have gen : ∀ ms : List Int, DpAll X.K H (ms.map V.int) (ms.map PyData.int) := fun ms => by
      induction ms with
      | nil => exact .nil
      | cons n r ih => exact .cons (.int n) ih
    exact gen ns
  obtain ⟨as, ra⟩ := Dp.readsAll I _ _ _ dp rv
  have zero : ∀ ms : List Int, PyData.depthAll (ms.map PyData.int) ≤ 1 := fun ms => by
    induction ms with
    | nil => simp [PyData.depthAll]
    | cons n r ih =>
      simp only [List.map_cons, PyData.depthAll, PyData.depth]
      omega
  refine min_list_default (I.ok.hd hc) pl.isList (xs := ns.map PyData.int) (by simpa using ra) ⟨?_, ?_⟩ (by have := zero ns; omega) ?_ ?_
  · intro x hx y hy
    obtain ⟨b, _, rfl⟩ := List.mem_map.mp hx
    obtain ⟨c, _, rfl⟩ := List.mem_map.mp hy
    rfl
  · intro x hx
    obtain ⟨b, _, rfl⟩ := List.mem_map.mp hx
    intro z; cases z
  · intro e h' tk kept
    have en : ns = [] := by simpa using e
    exact ⟨v, H, I.kept kept, rd, h0 en⟩
  · intro y ys i u h' tk bs e hi rd' kept
    cases ns with
    | nil => cases e
    | cons n r =>
      cases e
      rw [minD_ints] at rd'
      cases rd'
      exact ⟨V.int _, H, I.kept kept, ⟨_, rfl⟩, h1 n r rfl⟩
def minOr (v : V) : List Int → V
  | [] => v
  | n :: r => .int (r.foldl min n)
theorem evv_minDflt {K : PySem.W.Frag} {ta td : TE} {σ : L2.St} {B : Hp} {ns : List Int} {v : V} (ha : EvP ta σ B (LsOf K (VR V.int) ns)) (hd : EvV td σ B v) :
    EvV (tCKw (rMinDflt K) (tCons ta tNil) (tCons td tNil)) σ B (minOr v ns) := fun H bh Q q => ha H bh _ fun w B1 H1 g1 ⟨p, xs, e1, s1, it⟩ => by
  subst e1
  have ex : xs = ns.map V.int := items_vals it
  subst ex
  refine hd.mono g1.b H1 g1.bh _ fun u B2 H2 g2 e => ?_
  cases e
  refine ⟨p, ns, _, rfl, rfl, ex_l g2.bh (ex_l g2.b (sq_of s1)), fun e => ?_, fun n r e => ?_⟩
  · subst e; exact q _ B2 H2 (g1.trans g2) rfl
  · subst e; exact q _ B2 H2 (g1.trans g2) rfl
end Pw

set_option Elab.async false
set_option linter.all false
set_option maxRecDepth 100000
set_option maxHeartbeats 2000000
namespace Pw
open PySem PySem.Spec PySem.W L2
open PyProof.Rows hiding St
open Evl (sq_of st_of)
variable [Tbs]
/-! ### 23. lists of values -/
section
variable {α : Type} {K : PySem.W.Frag} {te ta tb : TE} {tr : TA} {σ : L2.St} {B B' B0 H0 H H1 : Hp} {R : Rl α} {as bs : List α} {E : XK} {D : Ends} {tz : TS} {v : V} {Pv : Hp → V → Prop}
theorem items_vr {fe : α → V} : ∀ {as : List α} {B : Hp}, Items (VR fe) as B (as.map fe)
  | [], _ => .nil
  | a :: r, B => .cons rfl items_vr
theorem evp_lstV {fe : α → V} {as : List α} (h : EvA tr σ B (Iss (as.map fe))) (hz : as.length ≤ 100000) : EvP (tLst tr) σ B (LsOf K (VR fe) as) := fun H bh Q q => h H bh _ fun vs B1 H1 g e => by
  cases e
  exact ⟨by rw [List.length_map]; exact Nat.le_trans hz (by decide), fun l hl => q _ _ _ (g.laid hl) ⟨l, _, rfl, upd_same, items_vr⟩⟩
theorem evp_cat [MonoR R] (ha : EvP ta σ B (LsOf K R as)) (hb : EvP tb σ B (LsOf K R bs)) (hz : as.length + bs.length ≤ 1000000) : EvP (tOp rCat ta tb) σ B (LsOf K R (as ++ bs)) := fun H bh Q q => ha H bh _ fun v B1 H1 g1 ⟨p, xs, e1, s1, i1⟩ => hb.mono g1.b H1 g1.bh _ fun w B2 H2 g2 ⟨p2, ys, e2, s2, i2⟩ => by
  subst e1 e2
  have l1 : xs.length = as.length := Paired.length i1
  have l2 : ys.length = bs.length := Paired.length i2
  have s1' := g2.b _ _ s1
  refine ⟨p, p2, xs, ys, rfl, rfl, g2.bh _ _ s1', g2.bh _ _ s2, Nat.le_trans (by omega) (show 1000000 ≤ sizeLine by decide), fun l hl => q _ _ _ ((g1.trans g2).laid hl) ⟨l, xs ++ ys, rfl, upd_same, ?_⟩⟩
  have e := Ex.new (o := .lst (xs ++ ys)) g2.bh.l (ex_none g2.bh hl)
  exact paired_app (Mono.up (P := Items R as) (g2.b.trans e) i1) (Mono.up (P := Items R bs) e i2)
theorem foldl_min_le (r : List Int) : ∀ n, r.foldl min n ≤ n ∧ (∀ y ∈ r, r.foldl min n ≤ y) ∧ (r.foldl min n = n ∨ r.foldl min n ∈ r) := by
  induction r with
  | nil => intro n; exact ⟨Int.le_refl _, (fun _ h => nomatch h), Or.inl rfl⟩
  | cons a r ih =>
    intro n
    obtain ⟨h1, h2, h3⟩ := ih (min n a)
    refine ⟨Int.le_trans h1 (Int.min_le_left _ _), fun y hy => ?_, ?_⟩
    · rcases List.mem_cons.mp hy with z | z
      · subst z; exact Int.le_trans h1 (Int.min_le_right _ _)
      · exact h2 y z
    · rcases h3 with z | z
      · rcases Int.le_total n a with w | w
        · rw [Int.min_eq_left w] at z
          exact .inl (by show r.foldl min (min n a) = n; rw [Int.min_eq_left w]; exact z)
        · rw [Int.min_eq_right w] at z
          exact .inr (by show r.foldl min (min n a) ∈ a :: r; rw [Int.min_eq_right w, z]; exact List.mem_cons_self)
      · exact .inr (List.mem_cons_of_mem _ z)
theorem evv_minL {n : Int} {r : List Int} (h : EvP ta σ B (LsOf K (VR V.int) (n :: r))) : EvV (tCB (rMin K) (tCons ta tNil)) σ B (.int (r.foldl min n)) := evp_cb1 h fun B' v e ⟨p, xs, h1, s, it⟩ => by
  subst h1
  have ex : xs = (n :: r).map V.int := items_vals it
  subst ex
  refine evr_now (fun H bh Q q => ⟨p, n :: r, rfl, ex_l bh (sq_of s), Nat.zero_lt_succ _, fun m hm hl => ?_⟩) rfl
  obtain ⟨h1, h2, h3⟩ := foldl_min_le r n
  have hb : r.foldl min n ∈ n :: r := by
    rcases h3 with z | z
    · rw [z]; exact List.mem_cons_self
    · exact List.mem_cons_of_mem _ z
  have e2 : m = r.foldl min n := by
    refine Int.le_antisymm (hl _ hb) ?_
    rcases List.mem_cons.mp hm with z | z
    · rw [z]; exact h1
    · exact h2 m z
  rw [e2]
  exact q
/-- a list of ints as data -/
theorem ls_data {B : Hp} {v : V} {ns : List Int} (h : LsOf K (VR V.int) ns B v) : Dp K B v (.list (ns.map PyData.int)) := by
  obtain ⟨p, xs, rfl, s, it⟩ := h
  have ex : xs = ns.map V.int := items_vals it
  subst ex
  refine .lst (sq_of s) ?_
  clear s it
  induction ns with
  | nil => exact .nil
  | cons n r ih => exact .cons (.int n) ih
end
/-- while, by a measure -/
theorem s_while {tt : TT} {tu : TS} {D : Ends} {σ : L2.St} {H B : Hp} (Pv : Nat → L2.St → Hp → Hp → Prop) {m0 : Nat} (bh : Ex B H) (h0 : Pv m0 σ B H)
    (hs : ∀ m σ' B' H', Ex B' H' → Pv m σ' B' H' → ∃ b, EvT tt σ' H' b ∧ (b = true → ∀ H1, Ex H' H1 → tu { D with nx := fun σ2 H2 => ∃ m' B2, m' < m ∧ Ex B2 H2 ∧ Pv m' σ2 B2 H2, ct := fun σ2 H2 => ∃ m' B2, m' < m ∧ Ex B2 H2 ∧ Pv m' σ2 B2 H2, bk := D.nx } σ' H1) ∧
      (b = false → ∀ H1, Ex H' H1 → D.nx σ' H1)) : tWhile tt tu D σ H := by
  refine ⟨fun m σ' H' => ∃ B', Ex B' H' ∧ Pv m σ' B' H', ⟨m0, B, bh, h0⟩, ?_⟩
  rintro m σ' H' ⟨B', e, pv⟩
  obtain ⟨b, hb, h1, h2⟩ := hs m σ' B' H' e pv
  refine hb H' (.refl e.r) _ fun B2 H2 g => ?_
  cases b with
  | true => exact iteT ⟨_, fun σ2 H3 ⟨m', B3, lt, e3, p3⟩ => ⟨m', lt, B3, e3, p3⟩, h1 rfl H2 g.h⟩
  | false => exact iteF (h2 rfl H2 g.h)
/-! ### the last item, a tuple but its first -/
section
variable {K : PySem.W.Frag} {te ta tb : TE} {tr : TA} {σ : L2.St} {B B0 H0 H : Hp} {ds : List PyData} {d : PyData} {D : Ends} {tz : TS} {vs : List V}
theorem evv_neg1 : EvV (tUn (rU fun i => .int (-i)) (tC (.int 1))) σ B (.int (-1)) := fun H bh Q q => ⟨1, rfl, q _ B H (Grow.refl bh) rfl⟩
theorem atI_last {α : Type} {xs : List α} {x : α} (h : xs.getLast? = some x) : atI xs (-1) = some x := by
  have ne : xs ≠ [] := fun z => by rw [z] at h; cases h
  have pos : 0 < xs.length := List.length_pos_iff.mpr ne
  have e : ixN xs.length (-1) = some (xs.length - 1) := by
    unfold ixN
    rw [if_neg (by omega), if_pos (by omega)]
    congr 1
    omega
  unfold atI
  rw [e]
  show xs[xs.length - 1]? = some x
  rw [← List.getLast?_eq_getElem?]
  exact h
theorem ixN_last {n : Nat} (h : 0 < n) : ixN n (-1) = some (n - 1) := by
  unfold ixN
  rw [if_neg (by omega), if_pos (by omega)]
  congr 1
  omega
theorem dps_last : ∀ {ds : List PyData} {xs : List V} {d : PyData}, DpAll K B xs ds → ds.getLast? = some d → ∃ x, xs.getLast? = some x ∧ Dp K B x d
  | [], _, _, _, h => nomatch h
  | [e], _, d, h, hd => by
    cases hd
    cases h with
    | cons a b => cases b; exact ⟨_, rfl, a⟩
  | e :: f :: r, _, d, h, hd => by
    cases h with
    | cons a b =>
      have hd' : (f :: r).getLast? = some d := by simpa using hd
      obtain ⟨x, h1, h2⟩ := dps_last b hd'
      cases b with
      | cons b1 b2 => exact ⟨x, by simpa using h1, h2⟩
theorem evd_last (ha : EvD K ta σ B (.list ds)) (hd : ds.getLast? = some d) : EvD K (tOp (rIxL K) ta (tUn (rU fun i => .int (-i)) (tC (.int 1)))) σ B d := evp_op ha (fun B' e => evv_neg1) fun x y B' e h1 h2 => by
  cases h2
  cases h1 with
  | lst s a =>
    obtain ⟨x, h3, h4⟩ := dps_last a hd
    exact evr_now (fun H bh Q q => ⟨_, _, _, x, rfl, rfl, ex_l bh s, atI_last h3, q⟩) h4
theorem evd_drop1 (ha : EvD K te σ B (.tuple (d :: ds))) : EvD K (tSl (rSlT K) te (tPart (tC (.int 1))) tNoPart) σ B (.tuple ds) := fun H bh Q q => ha H bh _ fun v B1 H1 g1 h1 => by
  cases h1 with
  | tup s a =>
    cases a with
    | cons a1 a2 =>
      refine ⟨1, rfl, _, _, rfl, ex_t g1.bh s, fun z => ?_, fun l hl => ?_⟩
      · have z1 := z.1
        rw [show (some (1 : Int)) = some ((1 : Nat) : Int) from rfl, HT.sIx_nat] at z1
        simp only [List.length_cons] at z1
        omega
      · rw [show (some (1 : Int)) = some ((1 : Nat) : Int) from rfl, cut_from]
        exact q _ _ _ (g1.laid hl) (.tup (st_of upd_same) (dps_up (Ex.new g1.bh.l (ex_none g1.bh hl)) a2))
/-- a tuple of plain values that are read of mine, too -/
theorem s_tupH {Q : VK} (g : Grow B0 H0 B H) (h : EvA tr σ H (Iss vs)) (hz : vs.length ≤ 1000)
    (k : ∀ p H', Grow B0 H0 (upd B p (.tup vs)) H' → Ex B (upd B p (.tup vs)) → (∀ c o, Cell H0 B H c o → Cell H0 (upd B p (.tup vs)) H' c o) → Q (.ref p) H') : tTup tr σ H Q := h H (.refl g.bh.r) _ fun ws B1 H1 g1 e => by
  cases e
  refine ⟨Nat.le_trans hz (by decide), fun p hp => ?_⟩
  have g2 := g.ext g1.h
  exact k p _ (g2.laid hp) (Ex.new g2.bh.l (ex_none g2.bh hp)) fun c o cc => (cc.ext g1.h).laid hp
end
/-- a def whose promise is told of the heap itself -/
theorem sp_ok {P : Program} {w : World} {K : PySem.W.Frag} {mg : Str → Option Value} {base : Heap} {x qual : Str} {st : Stmt} {f : Addr} {fd : FuncData} {N ps : List Str} {k : Nat} {sp : Sp} (F : Fun K x qual st f fd) (S : FnScope N ps (defScope st)) (len : ∀ vs H Q E, sp vs H Q E → vs.length = ps.length)
    (hbody : ∀ (cdv : Value) (A : Around) (outer : List Env) (s : Shared) (H0 : Hp) (E : XK), Room k (A.deeper (envOfC qual (defScope st) s.heap.objs.size f cdv)) →
      ∃ t, PSs (cxOf CX0 P w K mg base N qual (defScope st) f cdv A outer s H0 E).nox (defBody st) t ∧ ∀ vs H Q E', sp vs H Q E' → t { nx := fun _ H' => Q .non H', rt := Q } (L2.start N vs) H) : FnOk P w K mg base CX0 (k + 1) f fd ps sp :=
  F.ok S len fun cdv A outer s H vs Q E hr h => by
    obtain ⟨t, h1, h2⟩ := hbody cdv A outer s H E hr
    exact ⟨t, h1, h2 vs H Q E h⟩
/-- x, y = a, b -/
theorem q_parH {ta : TA} {tz : TS} {D : Ends} {σ : L2.St} {H : Hp} {v w : V} {i j : Nat} (t : Tb H) (h : EvA ta σ H (Iss [v, w])) (k : ∀ H1, Ex H H1 → tz D ((σ.set i (some v)).set j (some w)) H1) : tSeq (tPar i j ta) tz D σ H :=
  h H (.refl t) _ fun vs B1 H1 g1 e => by
    cases e
    exact ⟨v, w, rfl, k H1 g1.h⟩
/-- if, at the end -/
theorem s_ifH {tt : TT} {tu te : TS} {D : Ends} {σ : L2.St} {H : Hp} {b : Bool} (t : Tb H) (h : EvT tt σ H b) (k : ∀ H1, Ex H H1 → if b then tu D σ H1 else te D σ H1) : tIfS tt tu te D σ H :=
  h H (.refl t) _ fun B1 H1 g1 => k H1 g1.h
/-- what is never reached -/
theorem pe_never {X : Cx} {e : Expr} : PE X e (fun _ _ _ => False) := ⟨fun _ _ _ _ _ _ h => h.elim⟩
/-- a dict comprehension over nothing -/
theorem evp_dc0 {α : Type} {R : Rl α} {wi : TI} {g : TG} {tt : TT} {tk tv : TE} {vs : List Nat} {σ : L2.St} {B : Hp} (hl : EvI wi σ B R []) : EvP (tDc wi g tt tk tv vs) σ B (fun B' v => ∃ d, v = .ref d ∧ B' d = some (.dK [])) := fun H bh Q q => hl H bh _ fun J B1 H1 g1 w D hD =>
  ⟨fun i _ H' => i = 0 ∧ H' = upd H1 D (.dK []), ⟨0, rfl, rfl⟩, fun i m H' ⟨e1, e2⟩ => by
    subst e1 e2
    have g2 := g1.laid (o := .dK []) hD
    exact .inl ⟨w.stop _ (g1.cell (o := .dK []) hD).bh, q _ _ _ g2 ⟨D, rfl, upd_same⟩⟩⟩
/-- x = e, read of all that stands -/
theorem q_rd {te : TE} {tz : TS} {D : Ends} {σ : L2.St} {H : Hp} {i : Nat} {Pv : Hp → V → Prop} [Mono Pv] (t : Tb H) (h : EvP te σ H Pv) (k : ∀ v H1, Ex H H1 → Pv H1 v → tz D (σ.set i (some v)) H1) : tSeq (tAsg te (gName i)) tz D σ H :=
  h H (.refl t) _ fun v B1 H1 g1 p => k v H1 g1.h (Mono.up g1.bh p)
theorem s_rd {te : TE} {D : Ends} {σ : L2.St} {H : Hp} {i : Nat} {Pv : Hp → V → Prop} [Mono Pv] (t : Tb H) (h : EvP te σ H Pv) (k : ∀ v H1, Ex H H1 → Pv H1 v → D.nx (σ.set i (some v)) H1) : tAsg te (gName i) D σ H :=
  h H (.refl t) _ fun v B1 H1 g1 p => k v H1 g1.h (Mono.up g1.bh p)
/-- x = [..], a new list of mine -/
theorem q_newLV {tr : TA} {tz : TS} {D : Ends} {σ : L2.St} {B0 H0 B H : Hp} {i : Nat} {vs : List V} (g : Grow B0 H0 B H) (h : EvA tr σ H (Iss vs)) (hz : vs.length ≤ 1000) (k : ∀ p H', Ex H H' → H p = none → Grow B0 H0 B H' → Cell H0 B H' p (.lst vs) → tz D (σ.set i (some (.ref p))) H') : tSeq (tAsg (tLst tr) (gName i)) tz D σ H :=
  h H (.refl g.bh.r) _ fun ws B1 H1 g1 e => by
    cases e
    refine ⟨Nat.le_trans hz (by decide), fun p hp => ?_⟩
    have g2 := g.ext g1.h
    exact k p _ (g1.h.trans (Ex.new g1.h.r hp)) (ex_none g1.h hp) (g2.cell hp) (Cell.mk' g2 hp)
/-- if, then the rest -/
theorem q_ifH {tt : TT} {tu te tz : TS} {D : Ends} {σ : L2.St} {H : Hp} {b : Bool} (t : Tb H) (h : EvT tt σ H b) (k1 : b = true → ∀ H1, Ex H H1 → tu { D with nx := tz D } σ H1) (k2 : b = false → ∀ H1, Ex H H1 → te { D with nx := tz D } σ H1) : tSeq (tIfS tt tu te) tz D σ H :=
  h H (.refl t) _ fun B1 H1 g1 => by
    cases b with
    | true => exact iteT (k1 rfl H1 g1.h)
    | false => exact iteF (k2 rfl H1 g1.h)
/-- the same, the code object told -/
theorem sp_okC {P : Program} {w : World} {K : PySem.W.Frag} {mg : Str → Option Value} {base : Heap} {x qual : Str} {st : Stmt} {f : Addr} {fd : FuncData} {N ps : List Str} {k : Nat} {sp : Sp} (F : Fun K x qual st f fd) (S : FnScope N ps (defScope st)) (len : ∀ vs H Q E, sp vs H Q E → vs.length = ps.length)
    (hbody : ∀ (A : Around) (outer : List Env) (s : Shared) (H0 : Hp) (E : XK), Room k (A.deeper (envOfC qual (defScope st) s.heap.objs.size f fd.code)) →
      ∃ t, PSs (cxOf CX0 P w K mg base N qual (defScope st) f fd.code A outer s H0 E).nox (defBody st) t ∧ ∀ vs H Q E', sp vs H Q E' → t { nx := fun _ H' => Q .non H', rt := Q } (L2.start N vs) H) : FnOk P w K mg base CX0 (k + 1) f fd ps sp := by
  obtain ⟨o1, o2, k1, d1, p1, a1, cod, t1, sl1, rfl, look, told⟩ := F.ex
  refine fn_of look told S len fun A outer s H vs Q E hr h => ?_
  obtain ⟨t, h1, h2⟩ := hbody A outer s H E hr
  exact ⟨t, h1.nox, h2 vs H Q E h⟩
/-- while, then the rest -/
theorem q_while {tt : TT} {tu tz : TS} {D : Ends} {σ : L2.St} {H B : Hp} (Pv : Nat → L2.St → Hp → Hp → Prop) {m0 : Nat} (bh : Ex B H) (h0 : Pv m0 σ B H)
    (hs : ∀ m σ' B' H', Ex B' H' → Pv m σ' B' H' → ∃ b, EvT tt σ' H' b ∧ (b = true → ∀ H1, Ex H' H1 → tu { D with nx := fun σ2 H2 => ∃ m' B2, m' < m ∧ Ex B2 H2 ∧ Pv m' σ2 B2 H2, ct := fun σ2 H2 => ∃ m' B2, m' < m ∧ Ex B2 H2 ∧ Pv m' σ2 B2 H2, bk := tz D } σ' H1) ∧
      (b = false → ∀ H1, Ex H' H1 → tz D σ' H1)) : tSeq (tWhile tt tu) tz D σ H := s_while (D := { D with nx := tz D }) Pv bh h0 hs
end Pw

set_option Elab.async false
set_option linter.all false
set_option maxRecDepth 100000
set_option maxHeartbeats 2000000
namespace Pw
open PySem PySem.Spec PySem.W L2
open PyProof.Rows hiding St
open Evl (sq_of st_of)
variable [Tbs]
/-! ### 24. l == [] whatever l's items are -/
def rEqNil (K : PySem.W.Frag) : R2 := fun x y H Q => ∃ a b xs, x = .ref a ∧ y = .ref b ∧ SqL K H a xs ∧ SqL K H b [] ∧ Q (.bl xs.isEmpty) H
theorem op_eqNil {X : Cx} (hu : X.A.units + 64 < cLine) : OpR X (compareOp .Eq) (rEqNil X.K) := by
  intro pins s σ H x y v u Q I rx ry h
  obtain ⟨a, b, xs, rfl, rfl, ha, hb, q⟩ := h
  cases xs with
  | nil => exact op_eqD hu pins s σ H (.ref a) (.ref b) v u Q I rx ry ⟨.list [], .list [], .lst ha .nil, .lst hb .nil, rfl, rfl, q⟩
  | cons z r =>
    cases rx
    cases ry
    obtain ⟨its, rv, pl, _⟩ := I.list ha
    obtain ⟨its2, rv2, pl2, _⟩ := I.list hb
    cases rv2
    cases rv with
    | cons r1 t1 =>
      exact SeqAt.RcAt.lists_lengths pl.isList pl2.isList (by simp) (by omega) X.prog X.w _ _ ⟨.bl false, H, I, rfl, q⟩
theorem evv_eqNil {α : Type} {K : PySem.W.Frag} {R : Rl α} {as : List α} {ta tb : TE} {σ : L2.St} {B : Hp} [MonoR R] (ha : EvP ta σ B (LsOf K R as)) (hb : EvP tb σ B (LsOf K (VR V.int) [])) : EvV (tOp (rEqNil K) ta tb) σ B (.bl as.isEmpty) := fun H bh Q q => ha H bh _ fun v B1 H1 g1 ⟨p, xs, e1, s1, i1⟩ => hb.mono g1.b H1 g1.bh _ fun w B2 H2 g2 ⟨p2, ys, e2, s2, i2⟩ => by
  subst e1 e2
  cases i2
  have e : xs.isEmpty = as.isEmpty := by
    cases i1 <;> rfl
  exact ⟨p, p2, xs, rfl, rfl, ex_l (g2.b.trans g2.bh) (sq_of s1), ex_l g2.bh (sq_of s2), q _ B2 H2 (g1.trans g2) (by rw [e])⟩
end Pw

set_option Elab.async false
set_option linter.all false
set_option maxRecDepth 100000
set_option maxHeartbeats 2000000
namespace Pw
open PySem PySem.Spec PySem.W L2
open PyProof.Rows hiding St
open Evl (sq_of st_of)
variable [Tbs]
/-! ### 25. things of mine, many of a kind -/
abbrev CR (α : Type) : Type := Hp → Hp → Hp → Addr → α → Prop
class CellR {α : Type} (C : CR α) : Prop where
  cell : ∀ {H0 B H p a}, C H0 B H p a → ∃ o, Cell H0 B H p o
  grow : ∀ {H0 B H B1 H1 p a}, C H0 B H p a → Grow B H B1 H1 → C H0 B1 H1 p a
  other : ∀ {H0 B H p a d o'}, C H0 B H p a → d ≠ p → C H0 B (upd H d o') p a
  freeze : ∀ {H0 B H p a d o}, C H0 B H p a → d ≠ p → Ex B (upd B d o) → C H0 (upd B d o) H p a
  down : ∀ {H0 H1 B H p a}, C H1 B H p a → Ex H0 H1 → C H0 B H p a
  ext : ∀ {H0 B H H1 p a}, C H0 B H p a → Ex H H1 → C H0 B H1 p a
  via : ∀ {H0 B H B1 H1 p a t}, C H0 B H p a → t ≠ p → Grow B (delA H t) B1 H1 → C H0 B1 H1 p a
/-- through a call that changes t alone -/
theorem Grow.via {B0 H0 B H B2 H2 : Hp} {t : Addr} {o : HO} (g : Grow B0 H0 B H) (c : Cell H0 B H t o) (g2 : Grow B (delA H t) B2 H2) : Grow B0 H0 B2 H2 := by
  have e : Ex H0 (delA H t) := ⟨fun a u h n => by rw [delA_ne (ne_of_none h c.n0)]; exact g.h.at_ a u h n, fun a ps h => by rw [delA_ne (ne_of_none h c.n0)]; exact g.h.tab a ps h, g.h.l, g2.h.l⟩
  refine ⟨g.b.trans g2.b, g2.bh, e.trans g2.h, fun a u h => ?_⟩
  rcases g2.new a u h with z | z
  · exact g.new a u z
  · by_cases w : a = t
    · rw [w]; exact .inr c.n0
    · rw [delA_ne w] at z
      exact .inr (ex_none g.h z)
theorem Cell.via {H0 B H B2 H2 : Hp} {d t : Addr} {u : HO} (x : Cell H0 B H d u) (n : t ≠ d) (g2 : Grow B (delA H t) B2 H2) : Cell H0 B2 H2 d u := by
  have at_ : delA H t d = some u := by rw [delA_ne n.symm]; exact x.at_
  refine ⟨g2.h.at_ _ _ at_ x.po.1, ?_, x.n0, x.po⟩
  cases q : B2 d with
  | none => rfl
  | some v =>
    rcases g2.new _ _ q with z | z
    · rw [x.nb] at z; cases z
    · rw [at_] at z; cases z
/-- at ps stand the as, all of mine, no two at one place -/
structure Cells {α : Type} (C : CR α) (H0 B H : Hp) (ps : List Addr) (as : List α) : Prop where
  at_ : Paired (fun p a => C H0 B H p a) ps as
  nd : ps.Nodup
section
variable {α β : Type} {C : CR α} [CellR C] {H0 B H B1 H1 : Hp} {ps : List Addr} {as : List α} {p d : Addr} {a : α} {o o' : HO}
theorem Cells.nil : Cells C H0 B H [] [] := ⟨.nil, .nil⟩
theorem pairedW {γ δ : Type} {F G : γ → δ → Prop} : ∀ {xs : List γ} {ys : List δ}, Paired F xs ys → (∀ x y, x ∈ xs → F x y → G x y) → Paired G xs ys
  | _, _, .nil, _ => .nil
  | _, _, .cons h t, k => .cons (k _ _ List.mem_cons_self h) (pairedW t fun x y hx hf => k x y (List.mem_cons_of_mem _ hx) hf)
theorem Cells.grow (c : Cells C H0 B H ps as) (g : Grow B H B1 H1) : Cells C H0 B1 H1 ps as := ⟨pairedW c.at_ fun _ _ _ h => CellR.grow h g, c.nd⟩
theorem Cells.other (c : Cells C H0 B H ps as) (n : d ∉ ps) : Cells C H0 B (upd H d o') ps as := ⟨pairedW c.at_ fun x _ hx h => CellR.other h fun e => n (e ▸ hx), c.nd⟩
theorem Cells.freeze (c : Cells C H0 B H ps as) (n : d ∉ ps) (e : Ex B (upd B d o)) : Cells C H0 (upd B d o) H ps as := ⟨pairedW c.at_ fun x _ hx h => CellR.freeze h (fun z => n (z ▸ hx)) e, c.nd⟩
theorem Cells.ext (c : Cells C H0 B H ps as) (e : Ex H H1) : Cells C H0 B H1 ps as := ⟨pairedW c.at_ fun _ _ _ h => CellR.ext h e, c.nd⟩
theorem Cells.via {t : Addr} (c : Cells C H0 B H ps as) (n : t ∉ ps) (g : Grow B (delA H t) B1 H1) : Cells C H0 B1 H1 ps as := ⟨pairedW c.at_ fun x _ hx h => CellR.via h (t := t) (fun e => n (by rw [e]; exact hx)) g, c.nd⟩
theorem Cells.down (c : Cells C H1 B H ps as) (e : Ex H0 H1) : Cells C H0 B H ps as := ⟨pairedW c.at_ fun x _ hx h => CellR.down h e, c.nd⟩
theorem Cells.some_ (c : Cells C H0 B H ps as) (h : p ∈ ps) : ∃ o, Cell H0 B H p o := by
  obtain ⟨i, hi, e⟩ := List.mem_iff_getElem.mp h
  obtain ⟨a, _, f⟩ := paired_get c.at_ (by rw [List.getElem?_eq_getElem hi, e])
  exact CellR.cell f
theorem Cells.ne_none (c : Cells C H0 B H ps as) (h : H d = none) : d ∉ ps := fun m => by
  obtain ⟨o, x⟩ := c.some_ m
  rw [x.at_] at h
  cases h
theorem Cells.app (c : Cells C H0 B H ps as) (n : p ∉ ps) (x : C H0 B H p a) : Cells C H0 B H (ps ++ [p]) (as ++ [a]) := ⟨paired_app c.at_ (.cons x .nil), by
  rw [List.nodup_append]
  exact ⟨c.nd, by simp, fun u hu v hv e => n (by rw [List.mem_singleton.mp hv] at e; rw [← e]; exact hu)⟩⟩
/-- the i-th is changed -/
theorem paired_set {γ δ : Type} {F G : γ → δ → Prop} : ∀ {xs : List γ} {ys : List δ} {i : Nat} {x : γ} {y : δ}, Paired F xs ys → xs.Nodup → xs[i]? = some x → G x y → (∀ x' y', x' ∈ xs → x' ≠ x → F x' y' → G x' y') → Paired G xs (ys.set i y)
  | _ :: xs, _ :: ys, 0, x, y, .cons h t, nd, hi, g, k => by
    cases hi
    refine .cons g (pairedW t fun x' y' hx hf => k x' y' (List.mem_cons_of_mem _ hx) (fun e => ?_) hf)
    rw [List.nodup_cons] at nd
    exact nd.1 (e ▸ hx)
  | z :: xs, _ :: ys, i + 1, x, y, .cons h t, nd, hi, g, k => by
    rw [List.nodup_cons] at nd
    have hi' : xs[i]? = some x := hi
    have hx : x ∈ xs := List.mem_of_getElem? hi'
    exact .cons (k _ _ List.mem_cons_self (fun e => nd.1 (by rw [e]; exact hx)) h) (paired_set t nd.2 hi' g fun x' y' m n f => k x' y' (List.mem_cons_of_mem _ m) n f)
theorem Cells.set {i : Nat} (c : Cells C H0 B H ps as) (hi : ps[i]? = some p) (x : C H0 B (upd H p o') p a) : Cells C H0 B (upd H p o') ps (as.set i a) := ⟨paired_set c.at_ c.nd hi x fun x' y' _ n f => CellR.other f n.symm, c.nd⟩
end
theorem yes_to {σ : L2.St} {H : Hp} {f : Bool → Hp → Prop} (h : f true H) : tYes σ H f := h
/-- [e for x in ..], each a new thing of mine -/
theorem s_lcC {α β : Type} {R : Rl α} [MonoR R] {C : CR β} [CellR C] {wi : TI} {g : TG} {te : TE} {vs : List Nat} {σ : L2.St} {B H : Hp} {as : List α} {Q : VK} (e : α → β) (hl : EvI wi σ B R as) (bh : Ex B H) (hz : as.length ≤ 1000000)
    (hs : ∀ B' H' x a, Ex B B' → Ex B' H' → a ∈ as → R B' x a → ∃ σ1, EvG g x (wipe σ vs) B' σ1 ∧ wipe σ1 vs = wipe σ vs ∧ ∀ Q' : VK, (∀ p B2 H2, Grow B' H' B2 H2 → H' p = none → C H' B2 H2 p (e a) → Q' (.ref p) H2) → te σ1 H' Q')
    (k : ∀ l ps B2 H2, Grow B H B2 H2 → B2 l = some (.lst (ps.map V.ref)) → Cells C H B2 H2 ps (as.map e) → Q (.ref l) H2) : tLc wi g tYes te vs σ H Q := hl H bh _ fun J B1 H1 g1 w D hD => by
  refine ⟨fun i m H' => m = as.length - i ∧ i ≤ as.length ∧ ∃ B2 ps, Grow B1 H1 B2 H' ∧ Cell H1 B2 H' D (.lst (ps.map V.ref)) ∧ Cells C H1 B2 H' ps ((as.take i).map e) ∧ D ∉ ps, ⟨as.length, by simp, Nat.zero_le _, B1, [], (Grow.refl g1.bh).cell hD, Cell.mk' (Grow.refl g1.bh) hD, .nil, by simp⟩, ?_⟩
  rintro i m H' ⟨rfl, hi, B2, ps, gr, c, cs, nDps⟩
  by_cases hlt : i < as.length
  · have ha : as[i]? = some as[i] := List.getElem?_eq_getElem hlt
    refine .inr ⟨w.go i _ H' (gr.b.trans gr.bh) ha, fun H'' => ∃ B2 ps, Grow B1 H1 B2 H'' ∧ Cell H1 B2 H'' D (.lst (ps.map V.ref)) ∧ Cells C H1 B2 H'' ps ((as.take (i + 1)).map e) ∧ D ∉ ps, fun H'' st' => ⟨as.length - (i + 1), by omega, rfl, hlt, st'⟩, fun x H'' y => ?_⟩
    obtain ⟨B3, g3, r3⟩ := w.yld i _ H' x H'' (gr.b.trans gr.bh) ha y B2 gr.b gr.bh
    have gr3 := gr.trans g3
    have c3 := c.grow g3
    have cs3 := cs.grow g3
    obtain ⟨σ1, h1, h2, h3⟩ := hs B3 H'' x _ (g1.b.trans gr3.b) gr3.bh (List.mem_of_getElem? ha) r3
    refine h1 H'' gr3.bh _ ⟨h2, ?_⟩
    refine yes_to (iteT ?_)
    refine h3 _ fun p B5 H5 g5 np cp => ?_
    have c5 := c3.grow g5
    have cs5 := cs3.grow g5
    have gr5 := gr3.trans g5
    have nps : p ∉ ps := cs3.ne_none np
    have nD : p ≠ D := fun z => by rw [z, c3.at_] at np; cases np
    have nD2 : D ∉ ps ++ [p] := by
      rw [List.mem_append]
      rintro (z | z)
      · exact nDps z
      · exact nD (List.mem_singleton.mp z).symm
    have len : (ps.map V.ref).length = i := by
      rw [List.length_map, Paired.length cs.at_, List.length_map, List.length_take]
      omega
    refine ⟨_, c5.at_, Nat.lt_of_le_of_lt (by rw [len]; omega) (show 1000000 < sizeLine by decide), B5, ps ++ [p], gr5.mut c5, ?_, ?_, nD2⟩
    · rw [List.map_append]
      exact c5.set
    · have et : (as.take (i + 1)).map e = (as.take i).map e ++ [e as[i]] := by
        rw [take_next ha, List.map_append]
        rfl
      rw [et]
      exact (cs5.app nps (CellR.down cp gr3.h)).other nD2
  · have e1 : i = as.length := by omega
    subst e1
    rw [List.take_length] at cs
    exact .inl ⟨w.stop H' (gr.b.trans gr.bh), k D ps _ H' (g1.trans (gr.freeze c)) upd_same ((cs.freeze nDps (Ex.new gr.bh.l c.nb)).down g1.h)⟩
/-- what an __init__ promises whose instance stays mine -/
def CtorC (C : Addr) (R : Hp → List V → (Hp → List (Str × V) → Prop) → Prop) : Sp := fun vs H Q _ => ∃ x dx us B P, vs = .ref x :: us ∧ Ex B H ∧ H x = some (.ins C dx []) ∧ B x = none ∧ R B us P ∧
  ∀ B' H', Grow B (delA H x) B' H' → (∃ fs, Cell (delA H x) B' H' x (.ins C dx fs) ∧ P B' fs) → Q .non H'
theorem s_makeC {C : Addr} {R : Hp → List V → (Hp → List (Str × V) → Prop) → Prop} {P : Hp → List (Str × V) → Prop} {tr : TA} {σ : L2.St} {B H : Hp} {E : XK} {A : Hp → List V → Prop} {Q : VK} (bh : Ex B H) (h : EvA tr σ B A) (r : ∀ B' vs, Ex B B' → A B' vs → R B' vs P)
    (k : ∀ x dx fs B2 H2, Grow B H B2 H2 → H x = none → Cell H B2 H2 x (.ins C dx fs) → P B2 fs → Q (.ref x) H2) : tMake C (CtorC C R) [] E tr σ H Q := h H bh _ fun vs B1 H1 g1 a x dx hx hdx n => by
  refine ⟨x, dx, vs, B1, P, by rw [List.append_nil], ex_make g1.bh hx hdx n, upd_same, ex_none g1.bh hx, r B1 vs g1.b a, fun B2 H2 g2 ⟨fs, c, p⟩ => ⟨rfl, ?_⟩⟩
  have hx0 : H x = none := ex_none g1.h hx
  exact k x dx fs B2 H2 (g1.trans (make_grow g1.bh hx hdx n g2)) hx0 ⟨c.at_, c.nb, hx0, c.po⟩ p
end Pw

set_option Elab.async false
set_option linter.all false
set_option maxRecDepth 100000
set_option maxHeartbeats 4000000
namespace K7
open PySem PySem.Spec PySem.W L2 Pw
open PyProof.Rows hiding St
open Evl (sq_of st_of)
variable [Tbs]
def top (i : Nat) : Stmt := PySem.Challenge.pw_promptworks_k77_held_wishes_count_anew.main.body.getD i (.Pass ⟨0, 0, 0, 0⟩)
/-- the addresses of the classes -/
structure Cs where
  Job : Addr
  Era : Addr
  Story : Addr
  House : Addr
  Plan : Addr
  Task : Addr
structure Txt (K : PySem.W.Frag) (mg : Str → Option Value) (c : Cs) : Prop where
  b_IndexError : mg "IndexError" = none
  b_KeyError : mg "KeyError" = none
  b_LookupError : mg "LookupError" = none
  b_ValueError : mg "ValueError" = none
  b_abs : mg "abs" = none
  b_all : mg "all" = none
  b_any : mg "any" = none
  b_bool : mg "bool" = none
  b_dict : mg "dict" = none
  b_enumerate : mg "enumerate" = none
  b_int : mg "int" = none
  b_isinstance : mg "isinstance" = none
  b_len : mg "len" = none
  b_list : mg "list" = none
  b_max : mg "max" = none
  b_min : mg "min" = none
  b_range : mg "range" = none
  b_sorted : mg "sorted" = none
  b_str : mg "str" = none
  b_tuple : mg "tuple" = none
  b_zip : mg "zip" = none
  m_LETTERS : ∃ t, mg "LETTERS" = some (.str ("abcdefghijklmnopqrstuvwxyz" : Str) t)
  m_LONGEST_NAME : ∃ t, mg "LONGEST_NAME" = some (.int 12 t)
  f_written_place : ∃ a, mg "written_place" = some (.ref a)
  m_Job : mg "Job" = some (.ref c.Job)
  c_Job : Cls K c.Job
  n_Job_kind : NoAttr K c.Job "kind"
  n_Job_place : NoAttr K c.Job "place"
  n_Job_came : NoAttr K c.Job "came"
  n_Job_arrived : NoAttr K c.Job "arrived"
  n_Job_freed : NoAttr K c.Job "freed"
  n_Job_load : NoAttr K c.Job "load"
  n_Job_ticks : NoAttr K c.Job "ticks"
  n_Job_ended : NoAttr K c.Job "ended"
  n_Job_barriers : NoAttr K c.Job "barriers"
  m_Era : mg "Era" = some (.ref c.Era)
  c_Era : Cls K c.Era
  n_Era_model : NoAttr K c.Era "model"
  n_Era_own : NoAttr K c.Era "own"
  n_Era_strange : NoAttr K c.Era "strange"
  m_Story : mg "Story" = some (.ref c.Story)
  c_Story : Cls K c.Story
  n_Story_until : NoAttr K c.Story "until"
  n_Story_turned : NoAttr K c.Story "turned"
  n_Story_lost : NoAttr K c.Story "lost"
  n_Story_lived : NoAttr K c.Story "lived"
  n_Story_names : NoAttr K c.Story "names"
  n_Story_house : NoAttr K c.Story "house"
  m_House : mg "House" = some (.ref c.House)
  c_House : Cls K c.House
  n_House_plans : NoAttr K c.House "plans"
  n_House_first : NoAttr K c.House "first"
  n_House_heard : NoAttr K c.House "heard"
  n_House_wanted : NoAttr K c.House "wanted"
  n_House_hour : NoAttr K c.House "hour"
  m_Plan : mg "Plan" = some (.ref c.Plan)
  c_Plan : Cls K c.Plan
  n_Plan_by_name : NoAttr K c.Plan "by_name"
  n_Plan_by_rank : NoAttr K c.Plan "by_rank"
  n_Plan_ceilings : NoAttr K c.Plan "ceilings"
  m_Task : mg "Task" = some (.ref c.Task)
  c_Task : Cls K c.Task
  n_Task_name : NoAttr K c.Task "name"
  n_Task_rank : NoAttr K c.Task "rank"
  n_Task_gap : NoAttr K c.Task "gap"
  n_Task_most : NoAttr K c.Task "most"
  n_Task_due : NoAttr K c.Task "due"
  n_Task_wait : NoAttr K c.Task "wait"
  n_Task_sections : NoAttr K c.Task "sections"
theorem pe_gS {X : Cx} {x : Str} {s : Str} {pos : Pos} (hg : Gl X x) (h : ∃ t, X.mg x = some (.str s t)) (hd : (x == ("__debug__" : Str)) = false := by decide) : PE X (.Name x pos) (tC (.str s)) := let ⟨t, e⟩ := h; pe_glob hg e ⟨t, rfl⟩ hd
theorem pe_gI {X : Cx} {x : Str} {i : Int} {pos : Pos} (hg : Gl X x) (h : ∃ t, X.mg x = some (.int i t)) (hd : (x == ("__debug__" : Str)) = false := by decide) : PE X (.Name x pos) (tC (.int i)) := let ⟨t, e⟩ := h; pe_glob hg e ⟨t, rfl⟩ hd
end K7

set_option Elab.async false
set_option linter.all false
set_option maxRecDepth 100000
set_option maxHeartbeats 4000000
namespace K7
open PySem PySem.Spec PySem.W L2 Pw
open PyProof.Rows hiding St
open Evl (sq_of st_of)
variable [Tbs]
/-! ### names -/
def letters : Str := "abcdefghijklmnopqrstuvwxyz"
def isName (x : Str) : Bool := (decide ((1 : Int) ≤ x.length) && decide ((x.length : Int) ≤ 12)) && x.cps.toList.all fun c => decide (c ∈ letters.cps.toList)
def R_isName : Hp → List V → (Hp → V → Prop) → Prop := fun _ vs P => ∃ x : Str, vs = [.str x] ∧ x.length ≤ 100000 ∧ P = Is (.bl (isName x))
section
variable {P : Program} {w : World} {K : PySem.W.Frag} {mg : Str → Option Value} {base : Heap} {c : Cs} {f : Addr} {fd : FuncData}
abbrev s_is_name : Stmt := top 31
theorem sc_is_name : FnScope ["thing", "sign"] ["thing"] (defScope s_is_name) := ⟨rfl, rfl, rfl, by decide +kernel, rfl, by decide +kernel, by decide +kernel⟩
/- slots: 0=thing 1=sign -/
theorem ok_is_name (F : Fun K "is_name" "is_name" s_is_name f fd) (T : Txt K mg c) : FnOk P w K mg base CX0 1 f fd ["thing"] (Pure R_isName) := by
  refine pure_ok F sc_is_name (fun B vs P' ⟨x, h, _⟩ => by rw [h]; rfl) fun cdv A outer s H0 E hr => ?_
  refine ⟨_, (pss_cons (ps_if (PW.pt (pw_or (pt_not (pt_val (pe_callB call_isi (by rfl) T.b_isinstance (by decide +kernel) (pa_cons (pv 0) (pa_cons (pe_bltn (v := .ty "str") (u := .type "str") (by rfl) T.b_str (by decide +kernel) rfl) pa_nil))))) (pw_or1 (pt_not (pt_chain op_le op_le pe_int (pe_callB (call_len) (by rfl) T.b_len (by decide +kernel) (pa_cons (pv 0) pa_nil)) (pe_gI (by rfl) T.m_LONGEST_NAME)))))) (pss_one (ps_ret pe_bl)) pss_nil)
        (pss_one (ps_ret (pe_callB (cr_all rfl) (by rfl) T.b_all (by decide +kernel) (pa_cons (pe_lc (own := [("sign", 1)]) rfl sc_is_name.nd (pi_str (pv 0)) (blkOk_by (N := ["thing", "sign"]) (sc := defScope s_is_name) (by decide +kernel)) (fun _ _ _ _ _ => (pg_name (i := 1) sc_is_name.nd rfl (by first | exact Or.inl rfl | exact Or.inr rfl))) (fun _ _ _ _ _ => pts_nil) (fun _ _ _ _ _ => (pe_cmpR op_in_sign (pv 1) (pe_gS (by rfl) T.m_LETTERS) (by rfl)))) pa_nil))))), fun B vs P' ⟨x, hv, hz, hP⟩ => ?_⟩
  subst hv hP
  refine evs_when (evt_or (evt_not (evt_val (evv_isi (b := true) (evv_var rfl) evv_c (fun _ _ => .base (.str x)) (by decide +kernel)))) fun _ => evt_not (evt_test (evv_chain (x := .int 1) evv_c (evv_len (evv_var rfl) fun B' v e h H _ => by cases h; exact lenV_str hz) (fun _ _ => evr_I0) (fun _ => evv_c) fun _ _ => evr_I0))) (fun hb => evs_ret (evp_c ?_)) fun hb => evs_ret ?_
  · show V.bl false = V.bl (isName x)
    have hb : (!(decide ((1 : Int) ≤ x.length) && decide ((x.length : Int) ≤ 12))) = true := hb
    unfold isName
    simp only [Bool.not_eq_true'] at hb
    rw [hb]
    rfl
  · have hb : (!(decide ((1 : Int) ≤ x.length) && decide ((x.length : Int) ≤ 12))) = false := hb
    simp only [Bool.not_eq_false'] at hb
    refine evv_cast (evv_all (bs := x.cps.toList.map fun c => decide (c ∈ letters.cps.toList)) ?_) ?_
    · refine evp_lcA (R := VR fun c => .str ⟨#[c]⟩) (S := VR V.bl) (fun c => decide (c ∈ letters.cps.toList)) (evi_str (evv_var rfl)) (by rw [Array.length_toList]; exact Nat.le_trans hz (by decide)) fun B' v a e _ hv => ?_
      subst hv
      exact ⟨_, evg_name, rfl, evv_op (evv_var rfl) evv_c fun B2 _ => evr_now (fun H _ Q q => ⟨a, letters, rfl, rfl, q⟩) rfl⟩
    · show V.bl _ = V.bl (isName x)
      unfold isName
      rw [hb, List.all_map]
      rfl
end
end K7

set_option Elab.async false
set_option linter.all false
set_option maxRecDepth 100000
set_option maxHeartbeats 4000000
namespace K7
open PySem PySem.Spec PySem.W L2 Pw
open PyProof.Rows hiding St
open Evl (sq_of st_of)
variable [Tbs]
/-! ### whole numbers, sections -/
def R_isWhole : Hp → List V → (Hp → V → Prop) → Prop := fun _ vs P => ∃ i l : Int, vs = [.int i, .int l] ∧ P = Is (.bl (decide (l ≤ i)))
abbrev Sec := Int × Int × Str
def secD (s : Sec) : PyData := .tuple [.int s.1, .int s.2.1, .str s.2.2]
def secV (s : Sec) : List V := [.int s.1, .int s.2.1, .str s.2.2]
def isSec (s : Sec) (most : Int) : Bool := !((!decide ((0 : Int) ≤ s.1)) || ((!decide ((1 : Int) ≤ s.2.1)) || (!isName s.2.2))) && decide (s.1 + s.2.1 < most)
def R_isSection (K : PySem.W.Frag) : Hp → List V → (Hp → V → Prop) → Prop := fun B vs P => ∃ (v : V) (s : Sec) (most : Int), vs = [v, .int most] ∧ Dp K B v (secD s) ∧ s.2.2.length ≤ 100000 ∧ P = Is (.bl (isSec s most))
def liesIn (a b : Sec) : Bool := decide (b.1 ≤ a.1) && decide (a.1 + a.2.1 ≤ b.1 + b.2.1)
def goTog (a b : Sec) : Bool := (decide (a.1 + a.2.1 ≤ b.1) || decide (b.1 + b.2.1 ≤ a.1)) || ((!decide (V.str a.2.2 = V.str b.2.2)) && (liesIn a b || liesIn b a))
def R_two (K : PySem.W.Frag) (f : Sec → Sec → Bool) : Hp → List V → (Hp → V → Prop) → Prop := fun B vs P => ∃ (v u : V) (a b : Sec), vs = [v, u] ∧ Dp K B v (secD a) ∧ Dp K B u (secD b) ∧ P = Is (.bl (f a b))
section
variable {P : Program} {w : World} {K : PySem.W.Frag} {mg : Str → Option Value} {base : Heap} {c : Cs} {f : Addr} {fd : FuncData}
abbrev s_is_whole : Stmt := top 32
theorem sc_is_whole : FnScope ["thing", "least"] ["thing", "least"] (defScope s_is_whole) := ⟨rfl, rfl, rfl, by decide +kernel, rfl, by decide +kernel, by decide +kernel⟩
/- slots: 0=thing 1=least -/
theorem ok_is_whole (F : FunD K "is_whole" "is_whole" (defArgs s_is_whole) (defBody s_is_whole) (defScope s_is_whole) [] [("least", .int 0)] f fd) (T : Txt K mg c) : FnOk P w K mg base CX0 1 f fd ["thing", "least"] (Pure R_isWhole) := by
  refine pureD_ok F sc_is_whole (fun B vs P' ⟨i, l, h, _⟩ => by rw [h]; rfl) fun cdv A outer s H0 E hr => ?_
  refine ⟨_, (pss_one (ps_ret (pe_and (pe_callB call_isi (by rfl) T.b_isinstance (by decide +kernel) (pa_cons (pv 0) (pa_cons (pe_bltn (v := .ty "int") (u := .type "int") (by rfl) T.b_int (by decide +kernel) rfl) pa_nil))) (pe_and (pe_not (pe_callB call_isi (by rfl) T.b_isinstance (by decide +kernel) (pa_cons (pv 0) (pa_cons (pe_bltn (v := .ty "bool") (u := .type "bool") (by rfl) T.b_bool (by decide +kernel) rfl) pa_nil)))) (pe_one (pe_cmpR op_ge (pv 0) (pv 1) (nomark _))))))), fun B vs P' ⟨i, l, hv, hP⟩ => ?_⟩
  subst hv hP
  refine evs_ret (evv_cast (evv_and (evv_isi (b := true) (evv_var rfl) evv_c (fun _ _ => .base (.int i)) (by decide +kernel)) fun _ => evv_and (evv_not (evv_isi (b := false) (evv_var rfl) evv_c (fun _ _ => .base (.int i)) (by decide +kernel))) fun _ => evv_I0 (evv_var rfl) (evv_var rfl)) ?_)
  show V.bl (true && (!false && decide (l ≤ i))) = V.bl (decide (l ≤ i))
  rfl
theorem g_is_whole (F : FunD K "is_whole" "is_whole" (defArgs s_is_whole) (defBody s_is_whole) (defScope s_is_whole) [] [("least", .int 0)] f fd) (T : Txt K mg c) (hm : mg "is_whole" = some (.ref f)) :
    Gf P w K mg base 1 "is_whole" ["thing", "least"] [.int 0] (Pure R_isWhole) ∧ Gk P w K mg base 1 "is_whole" ["thing", "least"] 1 ["least"] (fun vs zs => vs ++ zs) (Pure R_isWhole) := by
  refine ⟨?_, ?_⟩
  · obtain ⟨ds, r, b⟩ := F.binds0 (ps := ["thing", "least"]) 1 (by simp) rfl fun D doc pm an cdv ct us ks h1 h2 => match us, ks, h1, h2 with
      | [_], [_], _, _ => ⟨_, _, _, _, _, _, rfl, rfl, rfl⟩
    exact ⟨f, fd, ds, ok_is_whole F T, hm, F.kp, b, r⟩
  · obtain ⟨mv, b⟩ := F.kbinds0 (ps := ["thing", "least"]) 1 ["least"] [] (fun us mv ws => us ++ ws) (by simp) (by simp) (fun r1 r2 r3 => r1.append r3) fun D doc pm an cdv ct us mv ws h1 h2 h3 => match us, mv, ws, h1, h2, h3 with
      | [_], [], [_], _, _, _ => rfl
    exact ⟨f, fd, _, ok_is_whole F T, hm, F.kp, b⟩
/-! an item of a section that stands in slot j -/
section
variable {σ : L2.St} {B : Hp} {j : Nat} {v : V} {s : Sec}
theorem sec_0 (hv : σ[j]? = some (some v)) (h : Dp K B v (secD s)) : EvV (tOp (rIxT K) (tVar j) (tC (.int 0))) σ B (.int s.1) := evv_ofD_int (evd_ixT (n := 0) (evd_var hv h) evv_c rfl)
theorem sec_1 (hv : σ[j]? = some (some v)) (h : Dp K B v (secD s)) : EvV (tOp (rIxT K) (tVar j) (tC (.int 1))) σ B (.int s.2.1) := evv_ofD_int (evd_ixT (n := 1) (evd_var hv h) evv_c rfl)
theorem sec_2 (hv : σ[j]? = some (some v)) (h : Dp K B v (secD s)) : EvV (tOp (rIxT K) (tVar j) (tC (.int 2))) σ B (.str s.2.2) := evv_ofD_str (evd_ixT (n := 2) (evd_var hv h) evv_c rfl)
end
abbrev s_lies_within : Stmt := top 35
theorem sc_lies_within : FnScope ["one", "other"] ["one", "other"] (defScope s_lies_within) := ⟨rfl, rfl, rfl, by decide +kernel, rfl, by decide +kernel, by decide +kernel⟩
/- slots: 0=one 1=other -/
theorem ok_lies_within (F : Fun K "lies_within" "lies_within" s_lies_within f fd) (T : Txt K mg c) : FnOk P w K mg base CX0 1 f fd ["one", "other"] (Pure (R_two K liesIn)) := by
  refine pure_ok F sc_lies_within (fun B vs P' ⟨v, u, a, b, h, _⟩ => by rw [h]; rfl) fun cdv A outer s H0 E hr => ?_
  refine ⟨_, (pss_one (ps_ret (pe_and (pe_cmpR op_le (pe_ix ix_tup (pv 1) pe_int (fun _ _ => rfl)) (pe_ix ix_tup (pv 0) pe_int (fun _ _ => rfl)) (nomark _)) (pe_one (pe_cmpR op_le (pe_op op_add (pe_ix ix_tup (pv 0) pe_int (fun _ _ => rfl)) (pe_ix ix_tup (pv 0) pe_int (fun _ _ => rfl))) (pe_op op_add (pe_ix ix_tup (pv 1) pe_int (fun _ _ => rfl)) (pe_ix ix_tup (pv 1) pe_int (fun _ _ => rfl))) (nomark _)))))), fun B vs P' ⟨v, u, a, b, hv, ha, hb, hP⟩ => ?_⟩
  subst hv hP
  exact evs_ret (evv_and (evv_I0 (sec_0 rfl hb) (sec_0 rfl ha)) fun _ => evv_I0 (evv_I0 (sec_0 rfl ha) (sec_1 rfl ha)) (evv_I0 (sec_0 rfl hb) (sec_1 rfl hb)))
abbrev s_go_together : Stmt := top 36
theorem sc_go_together : FnScope ["one", "other"] ["one", "other"] (defScope s_go_together) := ⟨rfl, rfl, rfl, by decide +kernel, rfl, by decide +kernel, by decide +kernel⟩
/- slots: 0=one 1=other -/
theorem ok_go_together (F : Fun K "go_together" "go_together" s_go_together f fd) (T : Txt K mg c) (G_lies_within : Gf P w K mg base 1 "lies_within" ["one", "other"] [] (Pure (R_two K liesIn))) : FnOk P w K mg base CX0 2 f fd ["one", "other"] (Pure (R_two K goTog)) := by
  refine pure_ok F sc_go_together (fun B vs P' ⟨v, u, a, b, h, _⟩ => by rw [h]; rfl) fun cdv A outer s H0 E hr => ?_
  refine ⟨_, (pss_cons (ps_if (PW.pt (pw_or (pt_cmpR op_le (pe_op op_add (pe_ix ix_tup (pv 0) pe_int (fun _ _ => rfl)) (pe_ix ix_tup (pv 0) pe_int (fun _ _ => rfl))) (pe_ix ix_tup (pv 1) pe_int (fun _ _ => rfl)) (nomark _)) (pw_or1 (pt_cmpR op_le (pe_op op_add (pe_ix ix_tup (pv 1) pe_int (fun _ _ => rfl)) (pe_ix ix_tup (pv 1) pe_int (fun _ _ => rfl))) (pe_ix ix_tup (pv 0) pe_int (fun _ _ => rfl)) (nomark _))))) (pss_one (ps_ret pe_bl)) pss_nil)
        (pss_one (ps_ret (pe_and (pe_cmpR op_ne (pe_ix ix_tup (pv 0) pe_int (fun _ _ => rfl)) (pe_ix ix_tup (pv 1) pe_int (fun _ _ => rfl)) (nomark _)) (pe_one (pe_or (pe_g G_lies_within (hr.mono (by decide)) (by rfl) (pa_cons (pv 0) (pa_cons (pv 1) pa_nil))) (pe_one (pe_g G_lies_within (hr.mono (by decide)) (by rfl) (pa_cons (pv 1) (pa_cons (pv 0) pa_nil)))))))))), fun B vs P' ⟨v, u, a, b, hv, ha, hb, hP⟩ => ?_⟩
  subst hv hP
  refine evs_when (evt_or (evt_test (evv_I0 (evv_I0 (sec_0 rfl ha) (sec_1 rfl ha)) (sec_0 rfl hb))) fun _ => evt_test (evv_I0 (evv_I0 (sec_0 rfl hb) (sec_1 rfl hb)) (sec_0 rfl ha))) (fun h => evs_ret (evp_c ?_)) fun h => evs_ret (evv_cast (evv_and (evv_ne (sec_2 rfl ha) (sec_2 rfl hb) rfl) fun _ =>
    evv_or (evp_call (evas_cons (evv_var rfl) (evas_cons (evv_var rfl) eva_nil)) fun B' vs e h1 => ⟨_, _, a, b, h1, dp_up e ha, dp_up e hb, rfl⟩) fun _ => evp_call (evas_cons (evv_var rfl) (evas_cons (evv_var rfl) eva_nil)) fun B' vs e h1 => ⟨_, _, b, a, h1, dp_up e hb, dp_up e ha, rfl⟩) ?_)
  · have h : (decide (a.1 + a.2.1 ≤ b.1) || decide (b.1 + b.2.1 ≤ a.1)) = true := h
    show V.bl true = V.bl (goTog a b)
    unfold goTog
    rw [h]
    rfl
  · have h : (decide (a.1 + a.2.1 ≤ b.1) || decide (b.1 + b.2.1 ≤ a.1)) = false := h
    show V.bl _ = V.bl (goTog a b)
    unfold goTog
    rw [h]
    rfl
abbrev s_is_section : Stmt := top 34
theorem sc_is_section : FnScope ["thing", "most", "start", "length", "lock"] ["thing", "most"] (defScope s_is_section) := ⟨rfl, rfl, rfl, by decide +kernel, rfl, by decide +kernel, by decide +kernel⟩
/- slots: 0=thing 1=most 2=start 3=length 4=lock -/
theorem ok_is_section (F : Fun K "is_section" "is_section" s_is_section f fd) (T : Txt K mg c) (G_is_whole : Gf P w K mg base 1 "is_whole" ["thing", "least"] [.int 0] (Pure R_isWhole))
    (G_is_whole_least : Gk P w K mg base 1 "is_whole" ["thing", "least"] 1 ["least"] (fun vs zs => vs ++ zs) (Pure R_isWhole)) (G_is_name : Gf P w K mg base 1 "is_name" ["thing"] [] (Pure R_isName)) : FnOk P w K mg base CX0 2 f fd ["thing", "most"] (Pure (R_isSection K)) := by
  refine pure_ok F sc_is_section (fun B vs P' ⟨v, s, m, h, _⟩ => by rw [h]; rfl) fun cdv A outer s H0 E hr => ?_
  refine ⟨_, (pss_cons (ps_if (PW.pt (pw_or (pt_not (pt_val (pe_callB call_isi (by rfl) T.b_isinstance (by decide +kernel) (pa_cons (pv 0) (pa_cons (pe_bltn (v := .ty "tuple") (u := .type "tuple") (by rfl) T.b_tuple (by decide +kernel) rfl) pa_nil))))) (pw_or1 (pt_cmpR op_ne (pe_callB (call_len) (by rfl) T.b_len (by decide +kernel) (pa_cons (pv 0) pa_nil)) pe_int (nomark _))))) (pss_one (ps_ret pe_bl)) pss_nil)
        (pss_cons (ps_asg (pv 0) (pg_tup (by rfl) (pgs_cons (pg_name (i := 2) sc_is_section.nd rfl (by first | exact Or.inl rfl | exact Or.inr rfl)) (pgs_cons (pg_name (i := 3) sc_is_section.nd rfl (by first | exact Or.inl rfl | exact Or.inr rfl)) (pgs_cons (pg_name (i := 4) sc_is_section.nd rfl (by first | exact Or.inl rfl | exact Or.inr rfl)) pgs_nil)))))
        (pss_cons (ps_if (PW.pt (pw_or (pt_not (pt_val (pe_g G_is_whole (hr.mono (by decide)) (by rfl) (pa_cons (pv 2) pa_nil)))) (pw_or (pt_not (pt_val (pe_gk G_is_whole_least (hr.mono (by decide)) (by rfl) (pa_cons (pv 3) pa_nil) (pk_cons pe_int pk_nil)))) (pw_or1 (pt_not (pt_val (pe_g G_is_name (hr.mono (by decide)) (by rfl) (pa_cons (pv 4) pa_nil)))))))) (pss_one (ps_ret pe_bl)) pss_nil)
        (pss_one (ps_ret (pe_cmpR op_lt (pe_op op_add (pv 2) (pv 3)) (pv 1) (nomark _))))))), fun B vs P' ⟨v, s, m, hv, hd, hz, hP⟩ => ?_⟩
  subst hv hP
  obtain ⟨a, rfl, ha⟩ := dp_tup (secV s) hd
  refine evs_unless (evt_or (evt_not (evt_val (evv_isi (b := true) (evv_var rfl) evv_c (fun H e => tyX_t (ex_t e ha)) (by decide +kernel)))) fun _ => evt_eq (evt_test (evv_ne (y := .int 3) (evv_len (Pa := Is (.ref a)) (evv_var rfl) fun B' v e h H e2 => by cases h; exact lenV_tup (ex_t (e.trans e2) ha)) evv_c rfl)) rfl) ?_
  refine evs_tg (evv_var rfl) fun v B' e h => ?_
  cases h
  refine ⟨_, evg_tup (ex_t e ha) rfl (evgs_cons evg_name (evgs_cons evg_name (evgs_cons evg_name evgs_nil))), ?_⟩
  have w0 : ∀ {i : Nat} {x : Int} {σ : L2.St} {B : Hp}, σ[i]? = some (some (.int x)) → EvV (tCall (Pure R_isWhole) [.int 0] E0 (tCons (tVar i) tNil)) σ B (.bl (decide (0 ≤ x))) := fun h => evp_callD (evas_cons (evv_var h) eva_nil) fun B' vs e h1 => ⟨_, 0, by rw [h1]; rfl, rfl⟩
  have w1 : ∀ {i : Nat} {x : Int} {σ : L2.St} {B : Hp}, σ[i]? = some (some (.int x)) → EvV (tCallN 1 1 (Pure R_isWhole) (fun vs zs => vs ++ zs) E0 (tCons (tVar i) tNil) (tCons (tC (.int 1)) tNil)) σ B (.bl (decide (1 ≤ x))) := fun {i x σ B} h H bh Q q =>
    ⟨_, h, rfl, rfl, B, Is (.bl (decide (1 ≤ x))), bh, ⟨x, 1, rfl, rfl⟩, q⟩
  have n1 : ∀ {i : Nat} {x : Str} {σ : L2.St} {B : Hp}, σ[i]? = some (some (.str x)) → x.length ≤ 100000 → EvV (tCall (Pure R_isName) [] E0 (tCons (tVar i) tNil)) σ B (.bl (isName x)) := fun h hz => evp_call (evas_cons (evv_var h) eva_nil) fun B' vs e h1 => ⟨_, h1, hz, rfl⟩
  refine evs_when (evt_or (evt_not (evt_val (w0 rfl))) fun _ => evt_or (evt_not (evt_val (w1 rfl))) fun _ => evt_not (evt_val (n1 rfl hz))) (fun h => evs_ret (evp_c ?_)) fun h => evs_ret (evv_cast (evv_I0 (evv_I0 (evv_var rfl) (evv_var rfl)) (evv_var rfl)) ?_)
  · have h : ((!decide ((0 : Int) ≤ s.1)) || ((!decide ((1 : Int) ≤ s.2.1)) || (!isName s.2.2))) = true := h
    show V.bl false = V.bl (isSec s m)
    unfold isSec
    rw [h]
    rfl
  · have h : ((!decide ((0 : Int) ≤ s.1)) || ((!decide ((1 : Int) ≤ s.2.1)) || (!isName s.2.2))) = false := h
    show V.bl _ = V.bl (isSec s m)
    unfold isSec
    rw [h]
    rfl
end
end K7

set_option Elab.async false
set_option linter.all false
set_option maxRecDepth 100000
set_option maxHeartbeats 4000000
namespace K7
open PySem PySem.Spec PySem.W L2 Pw
open PyProof.Rows hiding St
open Evl (sq_of st_of)
variable [Tbs]
/-! ### the sections of a task, a task -/
def areSecs (ss : List Sec) (most : Int) : Bool := (ss.map fun s => isSec s most).all id && ((List.range ss.length).flatMap fun at_ => (ss.take at_).map fun o => goTog (ss.getD at_ (0, 0, Str.empty)) o).all id
def R_areSections (K : PySem.W.Frag) : Hp → List V → (Hp → V → Prop) → Prop := fun B vs P => ∃ (v : V) (ss : List Sec) (most : Int), vs = [v, .int most] ∧ SeqOf K (DR K secD) ss B v ∧ (∀ s ∈ ss, s.2.2.length ≤ 100000) ∧ ss.length ≤ 900 ∧ P = Is (.bl (areSecs ss most))
/-- what a right task is handed -/
structure Right (n : Str) (r g m : Int) (d : Option Int) (wt : Int) (ss : List Sec) : Prop where
  name : isName n = true
  rank : 1 ≤ r
  gap : 1 ≤ g
  most : 1 ≤ m
  due : ∀ x, d = some x → 1 ≤ x ∧ x ≤ g
  wait : 0 ≤ wt
  secs : areSecs ss m = true
  slen : (∀ s ∈ ss, s.2.2.length ≤ 100000) ∧ ss.length ≤ 900
theorem isName_len {n : Str} (h : isName n = true) : n.length ≤ 100000 := by
  unfold isName at h
  simp only [Bool.and_eq_true, decide_eq_true_eq] at h
  omega
def oV : Option Int → V
  | none => .non
  | some i => .int i
def R_badPart (K : PySem.W.Frag) : Hp → List V → (Hp → V → Prop) → Prop := fun B vs P => ∃ (n : Str) (r g m : Int) (d : Option Int) (wt : Int) (sv : V) (ss : List Sec), vs = [.str n, .int r, .int g, .int m, oV d, .int wt, sv] ∧ SeqOf K (DR K secD) ss B sv ∧ Right n r g m d wt ss ∧ P = Is .non
structure TaskD where
  name : Str
  rank : Int
  gap : Int
  most : Int
  due : Int
  wait : Int
  secs : List Sec
def taskF (t : TaskD) (sv : V) : List (Str × V) := [("name", .str t.name), ("rank", .int t.rank), ("gap", .int t.gap), ("most", .int t.most), ("due", .int t.due), ("wait", .int t.wait), ("sections", sv)]
def TaskAt (K : PySem.W.Frag) (c : Cs) : Rl TaskD := fun B v t => ∃ a dx sv, v = .ref a ∧ B a = some (.ins c.Task dx (taskF t sv)) ∧ TsOf K (DR K secD) t.secs B sv
instance {K : PySem.W.Frag} {c : Cs} : MonoR (TaskAt K c) := ⟨fun e ⟨a, dx, sv, h, h1, h2⟩ => ⟨a, dx, sv, h, e _ _ h1, Mono.up (P := TsOf K (DR K secD) _) e h2⟩⟩
/-- Task(..), no sections -/
def R_Task (K : PySem.W.Frag) : Hp → List V → (Hp → List (Str × V) → Prop) → Prop := fun B vs P => ∃ (n : Str) (r g m : Int) (d : Option Int) (wt : Int) (sv : V), vs = [.str n, .int r, .int g, .int m, oV d, .int wt, sv] ∧ SeqOf K (DR K secD) [] B sv ∧ Right n r g m d wt [] ∧
  P = fun B' fs => ∃ sv', fs = taskF ⟨n, r, g, m, d.getD g, wt, []⟩ sv' ∧ TsOf K (DR K secD) [] B' sv'
section
variable {P : Program} {w : World} {K : PySem.W.Frag} {mg : Str → Option Value} {base : Heap} {c : Cs} {f : Addr} {fd : FuncData}
abbrev s_are_sections : Stmt := top 37
theorem sc_are_sections : FnScope ["thing", "most", "one", "at", "other"] ["thing", "most"] (defScope s_are_sections) := ⟨rfl, rfl, rfl, by decide +kernel, rfl, by decide +kernel, by decide +kernel⟩
/- slots: 0=thing 1=most 2=one 3=at 4=other -/
theorem ok_are_sections (F : Fun K "are_sections" "are_sections" s_are_sections f fd) (T : Txt K mg c) (G_is_section : Gf P w K mg base 2 "is_section" ["thing", "most"] [] (Pure (R_isSection K))) (G_go_together : Gf P w K mg base 2 "go_together" ["one", "other"] [] (Pure (R_two K goTog))) :
    FnOk P w K mg base CX0 3 f fd ["thing", "most"] (Pure (R_areSections K)) := by
  refine pure_ok F sc_are_sections (fun B vs P' ⟨v, ss, m, h, _⟩ => by rw [h]; rfl) fun cdv A outer s H0 E hr => ?_
  refine ⟨_, (pss_cons (ps_if (PW.pt (pw_or (pt_not (pt_val (pe_callB call_isiT (by rfl) T.b_isinstance (by decide +kernel) (pa_cons (pv 0) (pa_cons (pe_tup (pa_cons (pe_bltn (v := .ty "tuple") (u := .type "tuple") (by rfl) T.b_tuple (by decide +kernel) rfl) (pa_cons (pe_bltn (v := .ty "list") (u := .type "list") (by rfl) T.b_list (by decide +kernel) rfl) pa_nil))) pa_nil))))) (pw_or1 (pt_not (pt_val (pe_callB (cr_all rfl) (by rfl) T.b_all (by decide +kernel) (pa_cons (pe_lc (own := [("one", 2)]) rfl sc_are_sections.nd (pi_or (pi_list (pv 0)) (pi_tup (pv 0))) (blkOk_by (N := ["thing", "most", "one", "at", "other"]) (sc := defScope s_are_sections) (by decide +kernel)) (fun _ _ _ _ _ => (pg_name (i := 2) sc_are_sections.nd rfl (by first | exact Or.inl rfl | exact Or.inr rfl))) (fun _ _ _ _ _ => pts_nil) (fun _ _ _ _ _ => (pe_g G_is_section (hr.mono (by decide)) (by rfl) (pa_cons (pv 2) (pa_cons (pv 1) pa_nil))))) pa_nil))))))) (pss_one (ps_ret pe_bl)) pss_nil)
        (pss_one (ps_ret (pe_callB (cr_all rfl) (by rfl) T.b_all (by decide +kernel) (pa_cons (pe_lc2 (own := [("at", 3), ("other", 4)]) (vs1 := [4]) rfl sc_are_sections.nd (pi_range1 (by rfl) T.b_range (pa_cons (pe_callB (call_len) (by rfl) T.b_len (by decide +kernel) (pa_cons (pv 0) pa_nil)) pa_nil)) (blkOk_by (N := ["thing", "most", "one", "at", "other"]) (sc := defScope s_are_sections) (by decide +kernel)) (by decide) (fun _ _ _ _ _ => (pg_name (i := 3) sc_are_sections.nd rfl (by first | exact Or.inl rfl | exact Or.inr rfl))) (fun _ _ _ _ _ => pts_nil) (fun _ _ _ _ _ => (pi_or (pi_listK (K := K) rfl (pe_slice (SlR.or (sl_listK (K := K) rfl) (sl_tupK (K := K) rfl)) (pv 0) po_none (po_some (pv 3)))) (pi_tupK (K := K) rfl (pe_slice (SlR.or (sl_listK (K := K) rfl) (sl_tupK (K := K) rfl)) (pv 0) po_none (po_some (pv 3)))))) (fun _ _ _ _ _ => (pg_name (i := 4) sc_are_sections.nd rfl (by first | exact Or.inl rfl | exact Or.inr rfl))) (fun _ _ _ _ _ => pts_nil) (fun _ _ _ _ _ => (pe_g G_go_together (hr.mono (by decide)) (by rfl) (pa_cons (pe_ix (ix_seqK (K := K) rfl) (pv 0) (pv 3) (fun _ _ => rfl)) (pa_cons (pv 4) pa_nil))))) pa_nil))))), fun B vs P' ⟨v, ss, m, hv, hs, hz, hl, hP⟩ => ?_⟩
  subst hv hP
  have ty : ∃ m : String, kitB m "tuple" = some (m == "tuple") ∧ kitB m "list" = some (m == "list") ∧ ((m == "tuple") || (m == "list")) = true ∧ ∀ H, Ex B H → TyX K H v (.type m) := by
    rcases hs with ⟨p, xs, rfl, s, _⟩ | ⟨p, xs, rfl, s, _⟩
    · exact ⟨"list", by decide +kernel, by decide +kernel, by decide, fun H e => tyX_l (ex_l e (sq_of s))⟩
    · exact ⟨"tuple", by decide +kernel, by decide +kernel, by decide, fun H e => tyX_t (ex_t e s)⟩
  obtain ⟨tm, k1, k2, k3, k4⟩ := ty
  refine evs_when (evt_or (evt_not (evt_val (evv_cast (evv_isi2 (evv_var rfl) k4 k1 k2) (by rw [k3])))) fun _ => evt_not (evt_val (evv_all (bs := ss.map fun s => isSec s m)
    (evp_lcA (R := DR K secD) (S := VR V.bl) (fun s => isSec s m) (evi_seqV rfl hs) (by omega) fun B' x a e ha hx => ⟨_, evg_name, rfl, evp_call (evas_cons (evv_var rfl) (evas_cons (evv_var rfl) eva_nil)) fun B2 vs e2 h => ⟨_, a, m, h, dp_up e2 hx, hz a ha, rfl⟩⟩)))) (fun h => evs_ret (evp_c ?_)) fun h => evs_ret (evv_cast
    (evv_all (bs := (List.range ss.length).flatMap fun at_ => (ss.take at_).map fun o => goTog (ss.getD at_ (0, 0, Str.empty)) o) (evp_lc2 (R := VR fun i : Nat => .int i) (R1 := DR K secD) (S := VR V.bl) (fun at_ => ss.take at_) (fun at_ o => goTog (ss.getD at_ (0, 0, Str.empty)) o)
      (evi_rng1 (n := (ss.length : Nat)) (evas_cons (evv_len (Pa := SeqOf K (DR K secD) ss) (evp_var rfl hs) fun B' v e h H e2 => lenV_seq e2 h) eva_nil) (by omega)) ?_ fun B' x at_ e hat hx => ?_)) ?_)
  · have h : (!true || !((ss.map fun s => isSec s m).all id)) = true := h
    show V.bl false = V.bl (areSecs ss m)
    unfold areSecs
    have h2 : (ss.map fun s => isSec s m).all id = false := by simpa using h
    rw [h2]
    rfl
  · have hb : ∀ at_ ∈ List.range ss.length, ((ss.take at_).map fun o => goTog (ss.getD at_ (0, 0, Str.empty)) o).length ≤ 900 := fun at_ _ => by
      rw [List.length_map, List.length_take]
      omega
    have gen : ∀ l : List Nat, (∀ at_ ∈ l, ((ss.take at_).map fun o => goTog (ss.getD at_ (0, 0, Str.empty)) o).length ≤ 900) → (l.flatMap fun at_ => (ss.take at_).map fun o => goTog (ss.getD at_ (0, 0, Str.empty)) o).length ≤ 900 * l.length := fun l => by
      induction l with
      | nil => intro _; exact Nat.zero_le _
      | cons a l ih =>
        intro h
        rw [List.flatMap_cons, List.length_append, List.length_cons]
        have h1 := h a (List.mem_cons_self ..)
        have h2 := ih fun b hb => h b (List.mem_cons_of_mem _ hb)
        omega
    have := gen _ hb
    rw [List.length_range] at this
    have : 900 * ss.length ≤ 900 * 900 := Nat.mul_le_mul_left _ hl
    omega
  · have hat' : at_ < ss.length := by simpa using hat
    subst hx
    have hg : ss[at_]? = some (ss.getD at_ (0, 0, Str.empty)) := by
      rw [List.getD_eq_getElem?_getD, List.getElem?_eq_getElem hat']
      rfl
    have hs2 : SeqOf K (DR K secD) ss B' v := Mono.up (P := SeqOf K (DR K secD) ss) e hs
    refine ⟨_, evg_name, rfl, evi_seqE (evp_slTo rfl hs2 (evv_var rfl) hat'), fun B2 y b e2 hb hy => ⟨_, evg_name, rfl, ?_⟩⟩
    have hs3 : SeqOf K (DR K secD) ss B2 v := Mono.up (P := SeqOf K (DR K secD) ss) e2 hs2
    exact evp_call (eva_cons (P := IsD K (secD (ss.getD at_ (0, 0, Str.empty)))) (evp_ixSeq (R := DR K secD) rfl hs3 (evv_var rfl) hg) fun B3 e3 => evas_cons (evv_var rfl) eva_nil) fun B3 vs e3 ⟨v1, r1, h1, h2, h3⟩ => by
      cases h3
      exact ⟨_, _, _, b, h1, h2, dp_up e3 hy, rfl⟩
  · have h : (!true || !((ss.map fun s => isSec s m).all id)) = false := h
    show V.bl _ = V.bl (areSecs ss m)
    unfold areSecs
    have h2 : (ss.map fun s => isSec s m).all id = true := by simpa using h
    rw [h2]
    rfl
abbrev s_bad_part : Stmt := top 39
theorem sc_bad_part : FnScope ["name", "rank", "gap", "most", "due", "wait", "sections", "part", "number"] ["name", "rank", "gap", "most", "due", "wait", "sections"] (defScope s_bad_part) := ⟨rfl, rfl, rfl, by decide +kernel, rfl, by decide +kernel, by decide +kernel⟩
/- slots: 0=name 1=rank 2=gap 3=most 4=due 5=wait 6=sections 7=part 8=number -/
theorem ok_bad_part (F : Fun K "bad_part" "bad_part" s_bad_part f fd) (T : Txt K mg c) (G_is_whole : Gf P w K mg base 1 "is_whole" ["thing", "least"] [.int 0] (Pure R_isWhole))
    (G_is_whole_least : Gk P w K mg base 1 "is_whole" ["thing", "least"] 1 ["least"] (fun vs zs => vs ++ zs) (Pure R_isWhole)) (G_is_name : Gf P w K mg base 1 "is_name" ["thing"] [] (Pure R_isName)) (G_are_sections : Gf P w K mg base 3 "are_sections" ["thing", "most"] [] (Pure (R_areSections K))) :
    FnOk P w K mg base CX0 4 f fd ["name", "rank", "gap", "most", "due", "wait", "sections"] (Pure (R_badPart K)) := by
  refine pure_ok F sc_bad_part (fun B vs P' ⟨n, r, g, m, d, wt, sv, ss, h, _⟩ => by rw [h]; rfl) fun cdv A outer s H0 E hr => ?_
  refine ⟨_, (pss_cons (ps_if (pt_not (pt_val (pe_g G_is_name (hr.mono (by decide)) (by rfl) (pa_cons (pv 0) pa_nil)))) (pss_one (ps_ret pe_str)) pss_nil)
        (pss_cons (ps_for PassesOwn.never rfl (pi_tup (pe_tup (pa_cons (pe_tup (pa_cons pe_str (pa_cons (pv 1) pa_nil))) (pa_cons (pe_tup (pa_cons pe_str (pa_cons (pv 2) pa_nil))) (pa_cons (pe_tup (pa_cons pe_str (pa_cons (pv 3) pa_nil))) pa_nil))))) (pg_tup (by rfl) (pgs_cons (pg_name (i := 7) sc_bad_part.nd rfl (by first | exact Or.inl rfl | exact Or.inr rfl)) (pgs_cons (pg_name (i := 8) sc_bad_part.nd rfl (by first | exact Or.inl rfl | exact Or.inr rfl)) pgs_nil)))
        (pss_one (ps_if (pt_not (pt_val (pe_gk G_is_whole_least (hr.mono (by decide)) (by rfl) (pa_cons (pv 8) pa_nil) (pk_cons pe_int pk_nil)))) (pss_one (ps_ret (pv 7))) pss_nil)))
        (pss_cons (ps_if (PW.pt (pw_and (pt_cmpR op_notN (pv 4) pe_non (nomark _)) (pw_and1 (pt_not (PW.pt (pw_and (pt_val (pe_gk G_is_whole_least (hr.mono (by decide)) (by rfl) (pa_cons (pv 4) pa_nil) (pk_cons pe_int pk_nil))) (pw_and1 (pt_cmpR op_le (pv 4) (pv 2) (nomark _))))))))) (pss_one (ps_ret pe_str)) pss_nil)
        (pss_cons (ps_if (pt_not (pt_val (pe_g G_is_whole (hr.mono (by decide)) (by rfl) (pa_cons (pv 5) pa_nil)))) (pss_one (ps_ret pe_str)) pss_nil)
        (pss_one (ps_ret (pe_ifExp (pt_val (pe_g G_are_sections (hr.mono (by decide)) (by rfl) (pa_cons (pv 6) (pa_cons (pv 3) pa_nil)))) pe_non pe_str))))))), fun B vs P' ⟨n, r, g, m, d, wt, sv, ss, hv, hs, R, hP⟩ => ?_⟩
  subst hv hP
  have w0 : ∀ {i : Nat} {x : Int} {σ : L2.St} {B : Hp}, σ[i]? = some (some (.int x)) → 0 ≤ x → EvV (tCall (Pure R_isWhole) [.int 0] E0 (tCons (tVar i) tNil)) σ B (.bl true) := fun {i x σ B} h hx => evv_cast (evp_callD (P := Is (.bl (decide (0 ≤ x)))) (evas_cons (evv_var h) eva_nil) fun B' vs e h1 => ⟨_, 0, by rw [h1]; rfl, rfl⟩) (by rw [decide_eq_true hx])
  have w1 : ∀ {i : Nat} {x : Int} {σ : L2.St} {B : Hp}, σ[i]? = some (some (.int x)) → 1 ≤ x → EvV (tCallN 1 1 (Pure R_isWhole) (fun vs zs => vs ++ zs) E0 (tCons (tVar i) tNil) (tCons (tC (.int 1)) tNil)) σ B (.bl true) := fun {i x σ B} h hx H bh Q q =>
    ⟨_, h, rfl, rfl, B, Is (.bl true), bh, ⟨x, 1, rfl, by rw [decide_eq_true hx]⟩, q⟩
  refine evs_unless (evt_eq (evt_not (evt_val (evp_call (P := Is (.bl true)) (evas_cons (evv_var rfl) eva_nil) fun B' vs e h1 => ⟨n, h1, isName_len R.name, by rw [R.name]⟩))) rfl) ?_
  refine evs_forI (R := DR K fun p : Str × Int => .tuple [.str p.1, .int p.2]) (as := [("rank", r), ("gap", g), ("most", m)])
    (evi_tup (EvP.imp (evd_tup (K := K) (evds_cons (evd_tup (evds_cons (evd_str evv_c) (evds_cons (evd_int (evv_var rfl)) evds_nil))) (evds_cons (evd_tup (evds_cons (evd_str evv_c) (evds_cons (evd_int (evv_var rfl)) evds_nil))) (evds_cons (evd_tup (evds_cons (evd_str evv_c) (evds_cons (evd_int (evv_var rfl)) evds_nil))) evds_nil)))) fun B' v _ h => d_tsOf h))
    (fun _ _ σ' => ∃ x y, σ' = [some (.str n), some (.int r), some (.int g), some (.int m), some (oV d), some (.int wt), some sv, x, y]) ⟨_, _, rfl⟩ (fun i a v σ' B' e ha hR ⟨x, y, hσ⟩ => ?_) fun σ' B' e ⟨x, y, hσ⟩ => ?_
  · subst hσ
    obtain ⟨p, rfl, hp⟩ := dp_tup [.str a.1, .int a.2] hR
    refine ⟨_, evg_tup hp rfl (evgs_cons evg_name (evgs_cons evg_name evgs_nil)), ?_⟩
    have h1 : 1 ≤ a.2 := by
      have hm : a ∈ [(("rank" : Str), r), ("gap", g), ("most", m)] := List.mem_of_getElem? ha
      simp only [List.mem_cons, List.not_mem_nil, or_false] at hm
      rcases hm with rfl | rfl | rfl
      · exact R.rank
      · exact R.gap
      · exact R.most
    exact evs_unless1 (evt_not (evt_val (w1 rfl h1))) fun B2 _ => ⟨_, _, rfl⟩
  · subst hσ
    have hd : EvT (tAnd (tTest (tOp (fun x y H Q => y = .non ∧ Q (.bl (!decide (x = .non))) H) (tVar 4) (tC .non))) (tNot (tAnd (tB (tCallN 1 1 (Pure R_isWhole) (fun vs zs => vs ++ zs) E0 (tCons (tVar 4) tNil) (tCons (tC (.int 1)) tNil))) (tTest (tOp (rI0 fun i j => .bl (decide (i ≤ j))) (tVar 4) (tVar 2))))))
        [some (.str n), some (.int r), some (.int g), some (.int m), some (oV d), some (.int wt), some sv, x, y] B' false := by
      cases hd : d with
      | none => exact evt_and (b := false) (evt_test (evv_op (evv_var rfl) evv_c fun _ _ => evr_now (fun H _ Q q => ⟨rfl, q⟩) rfl)) (c := false) fun h => by cases h
      | some z =>
        obtain ⟨h1, h2⟩ := R.due z hd
        refine evt_eq (evt_and (b := true) (evt_test (evv_op (x := .int z) (evv_var rfl) evv_c fun _ _ => evr_now (fun H _ Q q => ⟨rfl, q⟩) rfl)) fun _ => evt_not (evt_and (b := true) (evt_val (w1 (x := z) rfl h1)) fun _ => evt_test (evv_I0 (i := z) (evv_var rfl) (evv_var rfl)))) ?_
        show (true && !(true && decide (z ≤ g))) = false
        rw [decide_eq_true h2]
        rfl
    refine evs_unless hd ?_
    refine evs_unless (evt_not (evt_val (w0 rfl R.wait))) ?_
    refine evs_ret (evv_cast (evv_if (b := true) (y := .str "sections") (evt_val (evp_call (P := Is (.bl true)) (evas_cons (evv_var rfl) (evas_cons (evv_var rfl) eva_nil)) fun B2 vs e2 h1 => ⟨sv, ss, m, h1, Mono.up (P := SeqOf K (DR K secD) ss) (e.trans e2) hs, R.slen.1, R.slen.2, by rw [R.secs]⟩)) (fun _ => evv_c) fun h => by cases h) rfl)
abbrev s_Task_init : Stmt := inClass (top 40) 0
theorem sc_Task_init : FnScope ["self", "name", "rank", "gap", "most", "due", "wait", "sections", "bad"] ["self", "name", "rank", "gap", "most", "due", "wait", "sections"] (defScope s_Task_init) := ⟨rfl, rfl, rfl, by decide +kernel, rfl, by decide +kernel, by decide +kernel⟩
/- slots: 0=self 1=name 2=rank 3=gap 4=most 5=due 6=wait 7=sections 8=bad -/
theorem ok_Task_init (F : FunD K "__init__" "Task.__init__" (defArgs s_Task_init) (defBody s_Task_init) (defScope s_Task_init) [] [("due", .non), ("wait", .int 0), ("sections", sd)] f fd) (T : Txt K mg c) (G_bad_part : Gf P w K mg base 4 "bad_part" ["name", "rank", "gap", "most", "due", "wait", "sections"] [] (Pure (R_badPart K))) :
    FnOk P w K mg base CX0 5 f fd ["self", "name", "rank", "gap", "most", "due", "wait", "sections"] (Ctor c.Task (R_Task K)) := by
  obtain ⟨wp, hwp⟩ := T.f_written_place
  refine F.ok sc_Task_init (fun vs H Q E ⟨x, dx, us, B, P', h, _, _, _, ⟨n, r, g, m, d, wt, sv, h2, _⟩, _⟩ => by rw [h, h2]; rfl) fun cdv A outer s H vs Q E hr ⟨x, dx, us, B, P', hv, bh, hx, nb, ⟨n, r, g, m, d, wt, sv, h2, hs, R, hP⟩, k⟩ => ?_
  subst hv h2 hP
  obtain ⟨g0, c0⟩ := ctor_start bh hx nb
  refine ⟨_, ((pss_cons (ps_set (i := 8) sc_Task_init.nd rfl (by first | exact Or.inl rfl | exact Or.inr rfl) (pe_g G_bad_part (hr.mono (by decide)) (by rfl) (pa_cons (pv 1) (pa_cons (pv 2) (pa_cons (pv 3) (pa_cons (pv 4) (pa_cons (pv 5) (pa_cons (pv 6) (pa_cons (pv 7) pa_nil)))))))))
        (pss_cons (ps_if (pt_cmpR op_notN (pv 8) pe_non (nomark _)) (pss_one ps_never) pss_nil)
        (pss_cons (ps_fld (pv 0) (pv 1) rfl)
        (pss_cons (ps_fld (pv 0) (pv 2) rfl)
        (pss_cons (ps_fld (pv 0) (pv 3) rfl)
        (pss_cons (ps_fld (pv 0) (pv 4) rfl)
        (pss_cons (ps_fld (pv 0) (pe_ifExp (pt_cmpR op_isN (pv 5) pe_non (nomark _)) (pv 3) (pv 5)) rfl)
        (pss_cons (ps_fld (pv 0) (pv 6) rfl)
        (pss_one (ps_fld (pv 0) (pe_callTy (call_tuple_of) (by rfl) T.b_tuple (by decide +kernel) (pa_cons (pe_callBK cr_sortedKE (by rfl) T.b_sorted (by decide +kernel) (pa_cons (pv 7) pa_nil) (pk_cons (pe_glob (v := .ref wp) (by rfl) hwp rfl) pk_nil)) pa_nil)) rfl)))))))))) : PSs _ _ _).nox, ?_⟩
  refine q_asg g0 (evp_call (P := Is .non) (evas_cons (evv_var rfl) (evas_cons (evv_var rfl) (evas_cons (evv_var rfl) (evas_cons (evv_var rfl) (evas_cons (evv_var rfl) (evas_cons (evv_var rfl) (evas_cons (evv_var rfl) eva_nil))))))) fun B' vs e h1 => ⟨n, r, g, m, d, wt, sv, [], h1, Mono.up (P := SeqOf K (DR K secD) []) e hs, R, rfl⟩) fun v B1 H1 g1 g1' p1 => ?_
  cases p1
  refine q_unless g1 (evt_test (evv_op (x := .non) (evv_var rfl) evv_c fun _ _ => evr_now (fun H _ Q q => ⟨rfl, q⟩) rfl)) fun B2 H2 g2 g2' => ?_
  have c2 := (c0.grow g1').grow g2'
  refine q_fld g2 c2 rfl T.c_Task T.n_Task_name (by show 0 < 1000; decide) (evv_var rfl) fun v B3 H3 _ g3 c3 p3 => ?_
  cases p3
  refine q_fld g3 c3 rfl T.c_Task T.n_Task_rank (by show 1 < 1000; decide) (evv_var rfl) fun v B4 H4 _ g4 c4 p4 => ?_
  cases p4
  refine q_fld g4 c4 rfl T.c_Task T.n_Task_gap (by show 2 < 1000; decide) (evv_var rfl) fun v B5 H5 _ g5 c5 p5 => ?_
  cases p5
  refine q_fld g5 c5 rfl T.c_Task T.n_Task_most (by show 3 < 1000; decide) (evv_var rfl) fun v B6 H6 _ g6 c6 p6 => ?_
  cases p6
  have hdue : EvV (tIf (tTest (tOp (fun x y H Q => y = .non ∧ Q (.bl (decide (x = .non))) H) (tVar 5) (tC .non))) (tVar 3) (tVar 5)) [some (.ref x), some (.str n), some (.int r), some (.int g), some (.int m), some (oV d), some (.int wt), some sv, some .non] B6 (.int (d.getD g)) := by
    cases d with
    | none => exact evv_cast (evv_if (b := true) (y := .non) (evt_test (evv_op (x := .non) (evv_var rfl) evv_c fun _ _ => evr_now (fun H _ Q q => ⟨rfl, q⟩) rfl)) (fun _ => evv_var rfl) fun h => by cases h) rfl
    | some z => exact evv_cast (evv_if (b := false) (x := .non) (evt_test (evv_op (x := .int z) (evv_var rfl) evv_c fun _ _ => evr_now (fun H _ Q q => ⟨rfl, q⟩) rfl)) (fun h => by cases h) fun _ => evv_var rfl) rfl
  refine q_fld g6 c6 rfl T.c_Task T.n_Task_due (by show 4 < 1000; decide) hdue fun v B7 H7 _ g7 c7 p7 => ?_
  cases p7
  refine q_fld g7 c7 rfl T.c_Task T.n_Task_wait (by show 5 < 1000; decide) (evv_var rfl) fun v B8 H8 _ g8 c8 p8 => ?_
  cases p8
  refine s_fld (K := K) g8 c8 rfl T.c_Task T.n_Task_sections (by show 6 < 1000; decide) (evp_tupL (A := Items (DR K secD) []) (evp_sortedKE (R := DR K secD) (evp_var rfl (Mono.up (P := SeqOf K (DR K secD) []) g8.b hs)) evv_c)) fun v B9 H9 _ _ c9 g9 p9 => ?_
  exact k _ _ (g9.freeze c9) ⟨_, upd_same, v, rfl, Mono.up (P := TsOf K (DR K secD) []) (Ex.new g9.bh.l c9.nb) p9⟩
end
end K7

set_option Elab.async false
set_option linter.all false
set_option maxRecDepth 100000
set_option maxHeartbeats 4000000
namespace K7
open PySem PySem.Spec PySem.W L2 Pw
open PyProof.Rows hiding St
open Evl (sq_of st_of)
variable [Tbs]
/-! ### plans (of tasks without sections) -/
abbrev nKey (t : TaskD) : Key := .inr t.name
abbrev rKey (t : TaskD) : Key := .inl t.rank
def rankLe (a b : TaskD) : Bool := decide (a.rank ≤ b.rank)
def byRank (ts : List TaskD) : List TaskD := ts.mergeSort rankLe
def planF (bn br ce : Addr) : List (Str × V) := [("by_name", .ref bn), ("by_rank", .ref br), ("ceilings", .ref ce)]
structure Unlike (ts : List TaskD) : Prop where
  names : (ts.map (·.name)).Nodup
  ranks : (ts.map (·.rank)).Nodup
  len : ts.length ≤ 60
  secs : ∀ t ∈ ts, t.secs = []
/-- a plan of the tasks ts, by ranks -/
def PlanIs (K : PySem.W.Frag) (c : Cs) (ts : List TaskD) : Hp → List (Str × V) → Prop := fun B fs => ∃ bn br ce kvs, fs = planF bn br ce ∧ B bn = some (.dK kvs) ∧ DMap (TaskAt K c) nKey ts B kvs ∧ TsOf K (TaskAt K c) (byRank ts) B (.ref br) ∧ B ce = some (.dK [])
def PlanAt (K : PySem.W.Frag) (c : Cs) : Rl (List TaskD) := fun B v ts => ∃ a dx fs, v = .ref a ∧ B a = some (.ins c.Plan dx fs) ∧ PlanIs K c ts B fs
instance {K : PySem.W.Frag} {c : Cs} : MonoR (PlanAt K c) := ⟨fun e ⟨a, dx, fs, h, h1, bn, br, ce, kvs, h2, h3, h4, h5, h6⟩ => ⟨a, dx, fs, h, e _ _ h1, bn, br, ce, kvs, h2, e _ _ h3, h4.up e, Mono.up (P := TsOf K (TaskAt K c) _) e h5, e _ _ h6⟩⟩
def R_Plan (K : PySem.W.Frag) (c : Cs) : Hp → List V → (Hp → List (Str × V) → Prop) → Prop := fun B vs P => ∃ (tv : V) (ts : List TaskD), vs = [tv] ∧ LsOf K (TaskAt K c) ts B tv ∧ Unlike ts ∧ P = PlanIs K c ts
theorem byRank_perm (ts : List TaskD) : (byRank ts).Perm ts := List.mergeSort_perm _ _
theorem byRank_sorted (ts : List TaskD) : ((byRank ts).map (·.rank)).Pairwise (· ≤ ·) := by
  rw [List.pairwise_map]
  refine (List.pairwise_mergeSort (le := rankLe) (fun a b c h1 h2 => ?_) (fun a b => ?_) ts).imp fun h => of_decide_eq_true h
  · exact decide_eq_true (Int.le_trans (of_decide_eq_true h1) (of_decide_eq_true h2))
  · unfold rankLe
    rcases Int.le_total a.rank b.rank with h | h
    · rw [decide_eq_true h]; rfl
    · rw [decide_eq_true h, Bool.or_true]
theorem sorted_unique {xs ys : List Int} (p : xs.Perm ys) (h1 : xs.Pairwise (· ≤ ·)) (h2 : ys.Pairwise (· ≤ ·)) : xs = ys := p.eq_of_pairwise (fun _ _ _ _ a b => Int.le_antisymm a b) h1 h2
section
variable {P : Program} {w : World} {K : PySem.W.Frag} {mg : Str → Option Value} {base : Heap} {c : Cs} {f : Addr} {fd : FuncData}
/-- an attribute of a task that stands in slot i -/
theorem tk_at {B : Hp} {v : V} {t : TaskD} (h : TaskAt K c B v t) : ∃ a dx sv, v = .ref a ∧ B a = some (.ins c.Task dx (taskF t sv)) := let ⟨a, dx, sv, h1, h2, _⟩ := h; ⟨a, dx, sv, h1, h2⟩
section
variable {σ : L2.St} {B : Hp} {i : Nat} {v : V} {t : TaskD}
theorem tk_name (T : Txt K mg c) (hv : σ[i]? = some (some v)) (h : TaskAt K c B v t) : EvV (tFld K (tVar i) "name") σ B (.str t.name) := by
  obtain ⟨a, dx, sv, rfl, h1⟩ := tk_at h
  exact evv_fld (evv_var hv) h1 T.c_Task T.n_Task_name rfl
theorem tk_rank (T : Txt K mg c) (hv : σ[i]? = some (some v)) (h : TaskAt K c B v t) : EvV (tFld K (tVar i) "rank") σ B (.int t.rank) := by
  obtain ⟨a, dx, sv, rfl, h1⟩ := tk_at h
  exact evv_fld (evv_var hv) h1 T.c_Task T.n_Task_rank rfl
theorem tk_gap (T : Txt K mg c) (hv : σ[i]? = some (some v)) (h : TaskAt K c B v t) : EvV (tFld K (tVar i) "gap") σ B (.int t.gap) := by
  obtain ⟨a, dx, sv, rfl, h1⟩ := tk_at h
  exact evv_fld (evv_var hv) h1 T.c_Task T.n_Task_gap rfl
theorem tk_wait (T : Txt K mg c) (hv : σ[i]? = some (some v)) (h : TaskAt K c B v t) : EvV (tFld K (tVar i) "wait") σ B (.int t.wait) := by
  obtain ⟨a, dx, sv, rfl, h1⟩ := tk_at h
  exact evv_fld (evv_var hv) h1 T.c_Task T.n_Task_wait rfl
theorem tk_secs (T : Txt K mg c) (hv : σ[i]? = some (some v)) (h : TaskAt K c B v t) : EvP (tFld K (tVar i) "sections") σ B (TsOf K (DR K secD) t.secs) := by
  obtain ⟨a, dx, sv, rfl, h1, h2⟩ := h
  exact evp_fld (evv_var hv) h1 T.c_Task T.n_Task_sections rfl h2
end
abbrev s_Plan_init : Stmt := inClass (top 27) 0
theorem sc_Plan_init : FnScope ["self", "tasks", "ranks", "one", "start", "length", "lock", "rank"] ["self", "tasks"] (defScope s_Plan_init) := ⟨rfl, rfl, rfl, by decide +kernel, rfl, by decide +kernel, by decide +kernel⟩
/- slots: 0=self 1=tasks 2=ranks 3=one 4=start 5=length 6=lock 7=rank -/
theorem ok_Plan_init {sd : V} (F : FunD K "__init__" "Plan.__init__" (defArgs s_Plan_init) (defBody s_Plan_init) (defScope s_Plan_init) [sd] [] f fd) (T : Txt K mg c) : FnOk P w K mg base CX0 1 f fd ["self", "tasks"] (Ctor c.Plan (R_Plan K c)) := by
  refine F.ok sc_Plan_init (fun vs H Q E ⟨x, dx, us, B, P', h, _, _, _, ⟨tv, ts, h2, _⟩, _⟩ => by rw [h, h2]; rfl) fun cdv A outer s H vs Q E hr ⟨x, dx, us, B, P', hv, bh, hx, nb, ⟨tv, ts, h2, ht, U, hP⟩, k⟩ => ?_
  subst hv h2 hP
  obtain ⟨g0, c0⟩ := ctor_start bh hx nb
  have hu := hu_of hr
  refine ⟨_, ((pss_cons (ps_fld (pv 0) (pe_dnewK) rfl)
        (pss_cons (ps_set (i := 2) sc_Plan_init.nd rfl (by first | exact Or.inl rfl | exact Or.inr rfl) (pe_dnewK))
        (pss_cons (ps_for PassesOwn.never rfl (pi_list (pv 1)) (pg_name (i := 3) sc_Plan_init.nd rfl (by first | exact Or.inl rfl | exact Or.inr rfl))
        (pss_cons (ps_if (pt_cmp (pc_din hu (pe_fld (pv 3) rfl) (pe_fld (pv 0) rfl))) (pss_one ps_never) pss_nil)
        (pss_cons (ps_if (pt_cmp (pc_din hu (pe_fld (pv 3) rfl) (pv 2))) (pss_one ps_never) pss_nil)
        (pss_cons (ps_dput hu (pe_fld (pv 0) rfl) (pe_fld (pv 3) rfl) (pv 3) rfl)
        (pss_one (ps_dput hu (pv 2) (pe_fld (pv 3) rfl) (pv 3) rfl))))))
        (pss_cons (ps_fld (pv 0) (pe_callTy (call_tuple_of) (by rfl) T.b_tuple (by decide +kernel) (pa_cons (pe_lc (own := [("rank", 7)]) rfl sc_Plan_init.nd (pi_list (pe_callB (call_sortedDI rfl) (by rfl) T.b_sorted (by decide +kernel) (pa_cons (pv 2) pa_nil))) (blkOk_by (N := ["self", "tasks", "ranks", "one", "start", "length", "lock", "rank"]) (sc := defScope s_Plan_init) (by decide +kernel)) (fun _ _ _ _ _ => (pg_name (i := 7) sc_Plan_init.nd rfl (by first | exact Or.inl rfl | exact Or.inr rfl))) (fun _ _ _ _ _ => pts_nil) (fun _ _ _ _ _ => (pe_dget hu (pv 2) (pv 7) (fun _ _ => rfl)))) pa_nil)) rfl)
        (pss_cons (ps_fld (pv 0) (pe_dnewK) rfl)
        (pss_one (ps_for PassesOwn.never rfl (pi_tup (pe_fld (pv 0) rfl)) (pg_name (i := 3) sc_Plan_init.nd rfl (by first | exact Or.inl rfl | exact Or.inr rfl))
        (pss_one (ps_for PassesOwn.never rfl (pi_tup (pe_fld (pv 3) rfl)) (pg_tup (by rfl) (pgs_cons (pg_name (i := 4) sc_Plan_init.nd rfl (by first | exact Or.inl rfl | exact Or.inr rfl)) (pgs_cons (pg_name (i := 5) sc_Plan_init.nd rfl (by first | exact Or.inl rfl | exact Or.inr rfl)) (pgs_cons (pg_name (i := 6) sc_Plan_init.nd rfl (by first | exact Or.inl rfl | exact Or.inr rfl)) pgs_nil))))
        (pss_one ps_never)))))))))) : PSs _ _ _).nox, ?_⟩
  refine q_fldD g0 c0 rfl T.c_Plan T.n_Plan_by_name (by show 0 < 1000; decide) fun bn H1 hbn nbn e1 g1 c1 d1 => ?_
  -- ranks = {}
  refine fun rk hrk => ?_
  have g2 := g1.cell (o := .dK []) hrk
  have c2 := c1.new (u := .dK []) hrk
  have d2 := d1.new (u := .dK []) hrk
  have r2 : Cell (delA H x) B (upd H1 rk (.dK [])) rk (.dK []) := Cell.mk' g1 hrk
  have nrx : rk ≠ x := fun e => by rw [e, c1.at_] at hrk; cases hrk
  have nrb : rk ≠ bn := fun e => by rw [e, d1.at_] at hrk; cases hrk
  have e2 : Ex B (upd H1 rk (.dK [])) := g2.bh
  refine s_forI (R := TaskAt K c) (evi_list (evp_var rfl ht)) g2.bh (fun i σ' B' H' => ∃ kvs rks y3 y4 y5 y6 y7, σ' = [some (.ref x), some tv, some (.ref rk), y3, y4, y5, y6, y7] ∧ Grow B (delA H x) B' H' ∧ Cell (delA H x) B' H' x (.ins c.Plan dx [("by_name", .ref bn)]) ∧
    Cell (delA H x) B' H' bn (.dK kvs) ∧ Cell (delA H x) B' H' rk (.dK rks) ∧ DMap (TaskAt K c) nKey (ts.take i) B' kvs ∧ DMap (TaskAt K c) rKey (ts.take i) B' rks) (fun B3 H3 g3 => ⟨[], [], none, none, none, none, none, rfl, g2.trans g3, c2.grow g3, d2.grow g3, r2.grow g3, DMap.nil, DMap.nil⟩) ?_ ?_
  · rintro i t v σ' B' H' B3 H3 eb bh' hi ⟨kvs, rks, y3, y4, y5, y6, y7, rfl, g4, c4, d4, r4, m4, n4⟩ g5 hR
    have g6 := g4.trans g5
    have c6 := c4.grow g5
    have d6 := d4.grow g5
    have r6 := r4.grow g5
    have m6 := m4.up g5.b
    have n6 := n4.up g5.b
    have hlt : i < ts.length := (List.getElem?_eq_some_iff.mp hi).1
    have nk : ∀ b ∈ ts.take i, nKey b ≠ nKey t := fun b hb e => by
      have e1 : b.name = t.name := Sum.inr.inj e
      obtain ⟨j, hj, hje⟩ := List.mem_iff_getElem.mp hb
      rw [List.length_take] at hj
      have hn := U.names
      rw [List.nodup_iff_pairwise_ne, List.pairwise_iff_getElem] at hn
      have := hn j i (by rw [List.length_map]; omega) (by rw [List.length_map]; exact hlt) (by omega)
      rw [List.getElem_map, List.getElem_map] at this
      rw [List.getElem_take] at hje
      rw [hje, (List.getElem?_eq_some_iff.mp hi).2] at this
      exact this e1
    have nr : ∀ b ∈ ts.take i, rKey b ≠ rKey t := fun b hb e => by
      have e1 : b.rank = t.rank := Sum.inl.inj e
      obtain ⟨j, hj, hje⟩ := List.mem_iff_getElem.mp hb
      rw [List.length_take] at hj
      have hn := U.ranks
      rw [List.nodup_iff_pairwise_ne, List.pairwise_iff_getElem] at hn
      have := hn j i (by rw [List.length_map]; omega) (by rw [List.length_map]; exact hlt) (by omega)
      rw [List.getElem_map, List.getElem_map] at this
      rw [List.getElem_take] at hje
      rw [hje, (List.getElem?_eq_some_iff.mp hi).2] at this
      exact this e1
    have R3 : TaskAt K c H3 v t := MonoR.up g6.bh hR
    refine q_unlessH g6 (evt_val (evv_cast (evv_din (k := nKey t) (evv_fldH (j := 0) c6.at_ rfl T.c_Plan T.n_Plan_by_name rfl) d6.at_ (tk_name (i := 3) T rfl R3)) (by rw [m6.no _ nk]; rfl))) fun H4 e4 g7 => ?_
    have c7 := c6.ext e4
    have d7 := d6.ext e4
    have r7 := r6.ext e4
    refine q_unlessH g7 (evt_val (evv_cast (evv_din (k := rKey t) (evv_var (i := 2) rfl) r7.at_ (tk_rank (i := 3) T rfl (MonoR.up e4 R3))) (by rw [n6.no _ nr]; rfl))) fun H5 e5 g8 => ?_
    have c8 := c7.ext e5
    have d8 := d7.ext e5
    have r8 := r7.ext e5
    obtain ⟨a, dxt, sv, rfl, ha⟩ := tk_at (MonoR.up (R := TaskAt K c) (e4.trans e5) R3)
    have kl : kvs.length < sizeLine := small1000 (by rw [m6.len, List.length_take]; have := U.len; omega)
    have rl : rks.length < sizeLine := small1000 (by rw [n6.len, List.length_take]; have := U.len; omega)
    refine ⟨_, rfl, _, rfl, x, _, _, _, _, rfl, c8.at_, T.c_Plan, T.n_Plan_by_name, rfl, _, rfl, a, _, _, _, _, rfl, ha, T.c_Task, T.n_Task_name, rfl, bn, _, rfl, DPut.k (k := nKey t) d8.at_ kl, ?_⟩
    have nab : a ≠ bn := ne_of ha d8.at_ (by intro z; cases z)
    have g9 := g8.mut (o' := .dK (putK kvs (nKey t) (.ref a))) d8
    have c9 := c8.other (o' := .dK (putK kvs (nKey t) (.ref a))) nbn.symm
    have d9 := d8.set (o' := .dK (putK kvs (nKey t) (.ref a)))
    have r9 := r8.other (o' := .dK (putK kvs (nKey t) (.ref a))) nrb
    refine ⟨_, rfl, _, rfl, _, rfl, a, _, _, _, _, rfl, (by rw [upd_ne nab]; exact ha), T.c_Task, T.n_Task_name |> fun _ => T.n_Task_rank, rfl, rk, _, rfl, DPut.k (k := rKey t) r9.at_ rl, ?_⟩
    refine ⟨B3, g5.b, ?_, putK kvs (nKey t) (.ref a), putK rks (rKey t) (.ref a), _, y4, y5, y6, y7, rfl, g9.mut r9, c9.other nrx.symm, d9.other nrb.symm, r9.set, ?_, ?_⟩
    · exact (g9.mut r9).bh
    · rw [take_next hi]
      exact m6.put nk hR
    · rw [take_next hi]
      exact n6.put nr hR
  · rintro σ' B' H' eb bh' ⟨kvs, rks, y3, y4, y5, y6, y7, rfl, g4, c4, d4, r4, m4, n4⟩
    rw [List.take_length] at m4 n4
    -- self.by_rank = tuple([ranks[rank] for rank in sorted(ranks)])
    have hcomp : EvP (tCB (fun xs H Q => ∃ p ys, xs = [.ref p] ∧ ((SqL K H p ys ∧ ∀ l, H l = none → Q (.ref l) (upd H l (.tup ys))) ∨ (SqT K H p ys ∧ Q (.ref p) H))) (tCons (tLc (iList K (tCB (fun xs H Q => ∃ (a : Addr) (kvs : List (Key × V)) (ks : List Int), xs = [.ref a] ∧ Rd H a (.dK kvs) ∧ kvs.map (·.1) = ks.map Sum.inl ∧ ks.length < 64 ∧
        ∀ (ys : List Int) (p : Addr), ys.Perm ks → ys.Pairwise (· ≤ ·) → H p = none → Q (.ref p) (upd H p (.lst (ys.map V.int)))) (tCons (tVar 2) tNil))) (gName 7) tYes (tDGet (tVar 2) (tVar 7)) [7]) tNil)) [some (.ref x), some tv, some (.ref rk), y3, y4, y5, y6, y7] (upd B' rk (.dK rks)) (TsOf K (TaskAt K c) (byRank ts)) := by
      have m5 : DMap (TaskAt K c) rKey ts (upd B' rk (.dK rks)) rks := n4.up (Ex.new g4.bh.l r4.nb)
      refine evp_tupL (A := Items (TaskAt K c) (byRank ts)) ?_
      have hcl : (byRank ts).map (fun t => t) = byRank ts := List.map_id' _
      rw [← hcl]
      refine evp_lcA (R := VR fun t : TaskD => .int t.rank) (S := TaskAt K c) (fun t => t) (evi_list ?_) (by rw [(byRank_perm ts).length_eq]; have := U.len; omega) fun B5 y t e5 htm hy => ⟨_, evg_name, rfl, ?_⟩
      · refine evp_cb1 (evv_var (i := 2) (v := .ref rk) rfl) fun B5 v e5 hv => ?_
        cases hv
        intro H5 b5 Q5 q5
        refine ⟨rk, rks, ts.map (·.rank), rfl, .inl (b5 _ _ (e5 _ _ upd_same)), ?_, ?_, fun ys p hp hs hn => ?_⟩
        · rw [n4.keys, List.map_map]; rfl
        · rw [List.length_map]; have := U.len; omega
        · have hy : ys = (byRank ts).map (·.rank) := sorted_unique (hp.trans ((byRank_perm ts).map _).symm) hs (byRank_sorted ts)
          subst hy
          refine q5 _ _ _ ((Grow.refl b5).laid hn) ⟨p, _, rfl, upd_same, ?_⟩
          rw [List.map_map]
          exact vals_items
      · subst hy
        obtain ⟨v, hv1, hv2⟩ := m5.at_ t ((byRank_perm ts).mem_iff.mp htm)
        haveI : Mono (fun B' v => TaskAt K c B' v t) := ⟨fun ee h => MonoR.up ee h⟩
        exact evp_dget (k := rKey t) (evv_var rfl) (e5 _ _ upd_same) (evv_var rfl) hv1 (MonoR.up e5 hv2)
    have g5 := g4.freeze r4
    have c5 := c4.freeze (c := rk) (o := .dK rks) nrx.symm
    have d5 := d4.freeze (c := rk) (o := .dK rks) nrb.symm
    refine q_fldX g5 c5 rfl T.c_Plan T.n_Plan_by_rank (by show 1 < 1000; decide) hcomp fun brv B6 H6 e6 keep6 g6 c6 p6 => ?_
    have m6 : DMap (TaskAt K c) nKey ts B6 kvs := m4.up ((Ex.new g4.bh.l r4.nb).trans e6)
    have d6 : Cell (delA H x) B6 H6 bn (.dK kvs) := keep6 _ _ nbn d5
    obtain ⟨br, xs, rfl, hbr, ibr⟩ := p6
    refine q_fldD g6 c6 rfl T.c_Plan T.n_Plan_ceilings (by show 2 < 1000; decide) fun ce H7 hce ncx e7 g7 c7 d7 => ?_
    have b7 : Cell (delA H x) B6 H7 bn (.dK kvs) := d6.del nbn e7
    have ncb : ce ≠ bn := fun e => by rw [e, d6.at_] at hce; cases hce
    refine s_forI (R := TaskAt K c) (B := H7) (evi_tup (evp_fld (evv_var (i := 0) (v := .ref x) rfl) c7.at_ T.c_Plan T.n_Plan_by_rank rfl (P := TsOf K (TaskAt K c) (byRank ts)) ⟨br, xs, rfl, ex_t g7.bh hbr, Mono.up (P := Items (TaskAt K c) _) g7.bh ibr⟩)) (Ex.refl g7.bh.r)
      (fun i σ' B' H' => ∃ y3 y4 y5 y6 y7, σ' = [some (.ref x), some tv, some (.ref rk), y3, y4, y5, y6, y7] ∧ Ex H7 H') (fun B8 H8 g8 => ⟨_, _, _, _, _, rfl, g8.h⟩) ?_ ?_
    · rintro i t v σ' B8 H8 B9 H9 e8 b8 hi ⟨z3, z4, z5, z6, z7, rfl, e9⟩ g9 hR
      have hm : t ∈ ts := (byRank_perm ts).mem_iff.mp (List.mem_of_getElem? hi)
      have hs : EvP (tFld K (tVar 3) "sections") [some (.ref x), some tv, some (.ref rk), some v, z4, z5, z6, z7] B9 (TsOf K (DR K secD) []) := by
        have := tk_secs (i := 3) (σ := [some (.ref x), some tv, some (.ref rk), some v, z4, z5, z6, z7]) T rfl hR
        rw [U.secs t hm] at this
        exact this
      refine s_forI (R := DR K secD) (evi_tup hs) g9.bh (fun i σ' B' H' => ∃ y3 y4 y5 y6 y7, σ' = [some (.ref x), some tv, some (.ref rk), y3, y4, y5, y6, y7] ∧ Ex H9 H') (fun B10 H10 g10 => ⟨_, _, _, _, _, rfl, g10.h⟩) (fun i a v σ' B' H' B2 H2 _ _ h => by simp at h) ?_
      rintro σ' B10 H10 e10 b10 ⟨w3, w4, w5, w6, w7, rfl, e11⟩
      exact ⟨B9, g9.b, g9.bh.trans e11, _, _, _, _, _, rfl, (e9.trans g9.h).trans e11⟩
    · rintro σ' B8 H8 e8 b8 ⟨z3, z4, z5, z6, z7, rfl, e9⟩
      have g9 := g7.ext e9
      have cx := c7.ext e9
      have cb := b7.ext e9
      have cc := d7.ext e9
      have f1 := g9.freeze cx
      have cb1 := cb.freeze (c := x) (o := .ins c.Plan dx (planF bn br ce)) nbn
      have cc1 := cc.freeze (c := x) (o := .ins c.Plan dx (planF bn br ce)) ncx
      have f2 := f1.freeze cb1
      have cc2 := cc1.freeze (c := bn) (o := .dK kvs) ncb
      have f3 := f2.freeze cc2
      have up : Ex B6 (upd (upd (upd B6 x (.ins c.Plan dx (planF bn br ce))) bn (.dK kvs)) ce (.dK [])) := ((Ex.new g9.bh.l cx.nb).trans (Ex.new f1.bh.l cb1.nb)).trans (Ex.new f2.bh.l cc2.nb)
      refine k _ H8 f3 ⟨planF bn br ce, ?_, bn, br, ce, kvs, rfl, ?_, m6.up up, ⟨br, xs, rfl, ex_t up hbr, Mono.up (P := Items (TaskAt K c) _) up ibr⟩, upd_same⟩
      · rw [upd_ne ncx.symm, upd_ne nbn.symm, upd_same]
        rfl
      · rw [upd_ne ncb.symm, upd_same]
/-! methods of plans -/
def R_planTasks (K : PySem.W.Frag) (c : Cs) : Hp → List V → (Hp → V → Prop) → Prop := fun B vs P => ∃ (v : V) (ts : List TaskD), vs = [v] ∧ PlanAt K c B v ts ∧ P = LsOf K (TaskAt K c) (byRank ts)
def R_planTask (K : PySem.W.Frag) (c : Cs) : Hp → List V → (Hp → V → Prop) → Prop := fun B vs P => ∃ (v : V) (ts : List TaskD) (t : TaskD), vs = [v, .str t.name] ∧ PlanAt K c B v ts ∧ t ∈ ts ∧ P = IsR (TaskAt K c) t
def R_planLocks (K : PySem.W.Frag) (c : Cs) : Hp → List V → (Hp → V → Prop) → Prop := fun B vs P => ∃ (v : V) (ts : List TaskD), vs = [v] ∧ PlanAt K c B v ts ∧ P = LsOf K (VR V.str) []
abbrev s_Plan_tasks : Stmt := inClass (top 27) 2
theorem sc_Plan_tasks : FnScope ["self"] ["self"] (defScope s_Plan_tasks) := ⟨rfl, rfl, rfl, by decide +kernel, rfl, by decide +kernel, by decide +kernel⟩
/- slots: 0=self -/
theorem ok_Plan_tasks (F : Fun K "tasks" "Plan.tasks" s_Plan_tasks f fd) (T : Txt K mg c) : FnOk P w K mg base CX0 1 f fd ["self"] (Pure (R_planTasks K c)) := by
  refine pure_ok F sc_Plan_tasks (fun B vs P' ⟨v, ts, h, _⟩ => by rw [h]; rfl) fun cdv A outer s H0 E hr => ?_
  refine ⟨_, (pss_one (ps_ret (pe_callTy (call_list_of) (by rfl) T.b_list (by decide +kernel) (pa_cons (pe_fld (pv 0) rfl) pa_nil)))), fun B vs P' ⟨v, ts, hv, ⟨a, dx, fs, hav, ha, bn, br, ce, kvs, hfs, h1, h2, h3, h4⟩, hP⟩ => ?_⟩
  subst hav hfs
  subst hv hP
  exact evs_ret (evp_listT (A := Items (TaskAt K c) (byRank ts)) (evp_fld (evv_var rfl) ha T.c_Plan T.n_Plan_by_rank rfl h3))
abbrev s_Plan_task : Stmt := inClass (top 27) 3
theorem sc_Plan_task : FnScope ["self", "name"] ["self", "name"] (defScope s_Plan_task) := ⟨rfl, rfl, rfl, by decide +kernel, rfl, by decide +kernel, by decide +kernel⟩
/- slots: 0=self 1=name -/
theorem ok_Plan_task (F : Fun K "task" "Plan.task" s_Plan_task f fd) (T : Txt K mg c) : FnOk P w K mg base CX0 1 f fd ["self", "name"] (Pure (R_planTask K c)) := by
  refine pure_ok F sc_Plan_task (fun B vs P' ⟨v, ts, t, h, _⟩ => by rw [h]; rfl) fun cdv A outer s H0 E hr => ?_
  have hu := hu_of hr
  refine ⟨_, (pss_cons (ps_if (pt_cmp (pc_dnotin hu (pv 1) (pe_fld (pv 0) rfl))) (pss_one ps_never) pss_nil)
        (pss_one (ps_ret (pe_dget hu (pe_fld (pv 0) rfl) (pv 1) (fun _ _ => rfl))))), fun B vs P' ⟨v, ts, t, hv, ⟨a, dx, fs, hav, ha, bn, br, ce, kvs, hfs, h1, h2, h3, h4⟩, hm, hP⟩ => ?_⟩
  subst hav hfs
  subst hv hP
  obtain ⟨w, hw1, hw2⟩ := h2.at_ t hm
  have hby : EvV (tFld K (tVar 0) "by_name") [some (.ref a), some (.str t.name)] B (.ref bn) := evv_fld (evv_var rfl) ha T.c_Plan T.n_Plan_by_name rfl
  refine evs_unless (evt_val (evv_cast (evv_dnotin (k := nKey t) hby h1 (evv_var rfl)) (by rw [hw1]; rfl))) ?_
  exact evs_ret (evp_dget (k := nKey t) hby h1 (evv_var rfl) hw1 hw2)
abbrev s_Plan_locks : Stmt := inClass (top 27) 4
theorem sc_Plan_locks : FnScope ["self"] ["self"] (defScope s_Plan_locks) := ⟨rfl, rfl, rfl, by decide +kernel, rfl, by decide +kernel, by decide +kernel⟩
/- slots: 0=self -/
theorem ok_Plan_locks (F : Fun K "locks" "Plan.locks" s_Plan_locks f fd) (T : Txt K mg c) : FnOk P w K mg base CX0 1 f fd ["self"] (Pure (R_planLocks K c)) := by
  refine pure_ok F sc_Plan_locks (fun B vs P' ⟨v, ts, h, _⟩ => by rw [h]; rfl) fun cdv A outer s H0 E hr => ?_
  refine ⟨_, (pss_one (ps_ret (pe_callB (call_sortedD rfl) (by rfl) T.b_sorted (by decide +kernel) (pa_cons (pe_fld (pv 0) rfl) pa_nil)))), fun B vs P' ⟨v, ts, hv, ⟨a, dx, fs, hav, ha, bn, br, ce, kvs, hfs, h1, h2, h3, h4⟩, hP⟩ => ?_⟩
  subst hav hfs
  subst hv hP
  refine evs_ret (evp_cb1 (Pa := Is (.ref ce)) (evv_fld (evv_var rfl) ha T.c_Plan T.n_Plan_ceilings rfl) fun B' v e hv => ?_)
  cases hv
  refine fun H bh Q q => ⟨ce, [], [], rfl, .inl (bh _ _ (e _ _ h4)), rfl, by decide, fun ys p hp hs hn => ?_⟩
  have : ys = [] := List.Perm.eq_nil hp
  subst this
  exact q _ _ _ ((Grow.refl bh).laid hn) ⟨p, _, rfl, upd_same, .nil⟩
end
end K7

set_option Elab.async false
set_option linter.all false
set_option maxRecDepth 100000
set_option maxHeartbeats 4000000
namespace K7
open PySem PySem.Spec PySem.W L2 Pw
open PyProof.Rows hiding St
open Evl (sq_of st_of)
variable [Tbs]
/-! ### the gate -/
abbrev W3 := Int × Str × Int
def wD (q : W3) : PyData := .tuple [.int q.1, .str q.2.1, .int q.2.2]
structure JR where
  name : Str
  num : Nat
  hour : Int
  arr : Int
  rel : Int
  work : Int
def jrV (j : JR) : List V := [.str j.name, .int j.num, .int j.hour, .int j.arr, .int j.rel, .int j.work]
def jrD (j : JR) : PyData := .tuple ((jrV j).map vD)
def pairD (p : Int × Int) : PyData := .tuple [.int p.1, .int p.2]
def arrOf (t : TaskD) (last : Option Int) (h : Int) : Int := match last with
  | none => h - t.wait
  | some l => max (h - t.wait) (l + t.gap)
def jobsOf (t : TaskD) (gate : Bool) : Option Int → Nat → List (Int × Int) → List JR
  | _, _, [] => []
  | last, k, p :: r => ⟨t.name, k, p.1, arrOf t last p.1, if gate then max p.1 (arrOf t last p.1) else p.1, p.2⟩ :: jobsOf t gate (some (arrOf t last p.1)) (k + 1) r
theorem jobsOf_len (t : TaskD) (gate : Bool) : ∀ (r : List (Int × Int)) (last : Option Int) (k : Nat), (jobsOf t gate last k r).length = r.length
  | [], _, _ => rfl
  | p :: r, last, k => congrArg Nat.succ (jobsOf_len t gate r _ _)
def mine (n : Str) (ws : List W3) : List (Int × Int) := (ws.filter fun q => decide (V.str q.2.1 = V.str n)).map fun q => (q.1, q.2.2)
def letIn (ts : List TaskD) (gate : Bool) (ws : List W3) : List JR := (byRank ts).flatMap fun t => jobsOf t gate none 0 (srt pairD (mine t.name ws))
def R_needWish (K : PySem.W.Frag) (c : Cs) : Hp → List V → (Hp → V → Prop) → Prop := fun B vs P => ∃ (v : V) (ts : List TaskD) (n : Str) (k : Int), vs = [v, .str n, .int k] ∧ PlanAt K c B v ts ∧ ts.length ≤ 60 ∧ (∃ t ∈ ts, t.name = n) ∧ 1 ≤ k ∧ P = Is .non
def R_jobsOf (K : PySem.W.Frag) (c : Cs) : Hp → List V → (Hp → V → Prop) → Prop := fun B vs P => ∃ (v u : V) (t : TaskD) (rows : List (Int × Int)) (gate : Bool), vs = [v, u, .bl gate] ∧ TaskAt K c B v t ∧ LsOf K (DR K pairD) rows B u ∧ rows.length ≤ 10000 ∧ P = LsOf K (DR K jrD) (jobsOf t gate none 0 rows)
def R_letIn (K : PySem.W.Frag) (c : Cs) : Hp → List V → (Hp → V → Prop) → Prop := fun B vs P => ∃ (v u : V) (ts : List TaskD) (ws : List W3) (gate : Bool), vs = [v, u, .bl gate] ∧ PlanAt K c B v ts ∧ ts.length ≤ 60 ∧ LsOf K (DR K wD) ws B u ∧ ws.length ≤ 10000 ∧ (∀ q ∈ ws, (∃ t ∈ ts, t.name = q.2.1) ∧ 1 ≤ q.2.2) ∧ P = LsOf K (DR K jrD) (letIn ts gate ws)
theorem inV_strs (n : Str) (ns : List Str) (h : n ∈ ns) : inV (.str n) (ns.map V.str) = true := by
  unfold inV
  rw [List.any_eq_true]
  refine ⟨.str n, List.mem_map.mpr ⟨n, h, rfl⟩, ?_⟩
  simp [eqV]
theorem flat_strs (ns : List Str) : (ns.map V.str).all flatV = true := by
  rw [List.all_eq_true]
  intro x hx
  obtain ⟨n, _, rfl⟩ := List.mem_map.mp hx
  rfl
theorem alike_pair (ps : List (Int × Int)) : AllAlike (ps.map pairD) := AllAlike.of fun a b => by simp [pairD, alike, alikeAll]
theorem sortable_pair (ps : List (Int × Int)) : Sortable (ps.map pairD) := Sortable.tuples fun b => ⟨_, _, rfl⟩
theorem depth_pair (p : Int × Int) : (pairD p).depth ≤ 50 := by simp [pairD, PyData.depth, PyData.depthAll]
theorem srt_len {β : Type} (enc : β → PyData) (bs : List β) : (srt enc bs).length = bs.length := (List.mergeSort_perm _ _).length_eq
theorem mine_len (n : Str) (ws : List W3) : (mine n ws).length ≤ ws.length := by
  unfold mine
  rw [List.length_map]
  exact List.length_filter_le _ _
section
variable {P : Program} {w : World} {K : PySem.W.Frag} {mg : Str → Option Value} {base : Heap} {c : Cs} {f : Addr} {fd : FuncData}
/-- plan.tasks(), the plan in slot i -/
theorem ev_tasks {σ : L2.St} {B : Hp} {te : TE} {v : V} {ts : List TaskD} {E : XK} (h : EvV te σ B v) (hp : PlanAt K c B v ts) : EvP (tMeth c.Plan "tasks" (Pure (R_planTasks K c)) [] E te tNil) σ B (LsOf K (TaskAt K c) (byRank ts)) := by
  obtain ⟨a, dx, fs, rfl, ha, bn, br, ce, kvs, rfl, h1, h2, h3, h4⟩ := id hp
  exact evp_meth h ha rfl eva_nil fun B' vs e hv => by cases hv; exact ⟨_, ts, rfl, MonoR.up (R := PlanAt K c) e hp, rfl⟩
abbrev s_need_wish : Stmt := top 11
theorem sc_need_wish : FnScope ["plan", "task", "work", "one"] ["plan", "task", "work"] (defScope s_need_wish) := ⟨rfl, rfl, rfl, by decide +kernel, rfl, by decide +kernel, by decide +kernel⟩
/- slots: 0=plan 1=task 2=work 3=one -/
theorem ok_need_wish (F : Fun K "need_wish" "need_wish" s_need_wish f fd) (T : Txt K mg c) (G_Plan_tasks : Gm P w K mg base 1 c.Plan "tasks" ["self"] [] (Pure (R_planTasks K c))) : FnOk P w K mg base CX0 2 f fd ["plan", "task", "work"] (Pure (R_needWish K c)) := by
  refine pure_ok F sc_need_wish (fun B vs P' ⟨v, ts, n, k, h, _⟩ => by rw [h]; rfl) fun cdv A outer s H0 E hr => ?_
  refine ⟨_, (pss_cons (ps_if (pt_cmpR op_notIn_seq (pv 1) (pe_lc (own := [("one", 3)]) rfl sc_need_wish.nd (pi_list (pe_gm0 (pv 0) T.c_Plan G_Plan_tasks (hr.mono (by decide)))) (blkOk_by (N := ["plan", "task", "work", "one"]) (sc := defScope s_need_wish) (by decide +kernel)) (fun _ _ _ _ _ => (pg_name (i := 3) sc_need_wish.nd rfl (by first | exact Or.inl rfl | exact Or.inr rfl))) (fun _ _ _ _ _ => pts_nil) (fun _ _ _ _ _ => (pe_fldK (K := K) rfl (pv 3) rfl))) (by rfl)) (pss_one ps_never) pss_nil)
        (pss_one (ps_if (pt_cmpR op_lt (pv 2) pe_int (nomark _)) (pss_one ps_never) pss_nil))), fun B vs P' ⟨v, ts, n, k, hv, hp, hl, hn, hk, hP⟩ => ?_⟩
  subst hv hP
  obtain ⟨t, ht, htn⟩ := hn
  have hm : n ∈ (byRank ts).map (·.name) := List.mem_map.mpr ⟨t, (byRank_perm ts).mem_iff.mpr ht, htn⟩
  refine evs_unless (evt_test (evv_cast (evv_in (neg := true) (xs := ((byRank ts).map (·.name)).map V.str) (evv_var rfl) (EvP.imp (evp_lcA (K := K) (R := TaskAt K c) (S := VR fun t : TaskD => V.str t.name) (fun t => t) (evi_list (ev_tasks (evv_var rfl) hp)) (by rw [(byRank_perm ts).length_eq]; omega) fun B' x a e ha hx => ⟨_, evg_name, rfl, tk_name T rfl hx⟩)
    fun B' v _ ⟨p, xs, h1, h2, h3⟩ => ⟨p, xs, h1, h2, by rw [items_vals h3, List.map_id', List.map_map]; rfl⟩) rfl (flat_strs _)) (by rw [inV_strs _ _ hm]; rfl))) ?_
  exact evs_unless1 (evt_eq (evt_test (evv_I0 (evv_var rfl) evv_c)) (by rw [decide_eq_false (by omega)])) fun B' _ => rfl
abbrev s_jobs_of : Stmt := top 12
theorem sc_jobs_of : FnScope ["task", "rows", "gate", "found", "last", "number", "hour", "work", "arrival", "release"] ["task", "rows", "gate"] (defScope s_jobs_of) := ⟨rfl, rfl, rfl, by decide +kernel, rfl, by decide +kernel, by decide +kernel⟩
/- slots: 0=task 1=rows 2=gate 3=found 4=last 5=number 6=hour 7=work 8=arrival 9=release -/
theorem ok_jobs_of (F : Fun K "jobs_of" "jobs_of" s_jobs_of f fd) (T : Txt K mg c) : FnOk P w K mg base CX0 1 f fd ["task", "rows", "gate"] (Pure (R_jobsOf K c)) := by
  refine pure_ok F sc_jobs_of (fun B vs P' ⟨v, u, t, rows, gate, h, _⟩ => by rw [h]; rfl) fun cdv A outer s H0 E hr => ?_
  refine ⟨_, (pss_cons (ps_set (i := 3) sc_jobs_of.nd rfl (by first | exact Or.inl rfl | exact Or.inr rfl) (pe_lst pa_nil))
        (pss_cons (ps_set (i := 4) sc_jobs_of.nd rfl (by first | exact Or.inl rfl | exact Or.inr rfl) pe_non)
        (pss_cons (ps_for PassesOwn.never rfl (pi_enum (by rfl) T.b_enumerate (pa_cons (pv 1) pa_nil)) (pg_tup (by rfl) (pgs_cons (pg_name (i := 5) sc_jobs_of.nd rfl (by first | exact Or.inl rfl | exact Or.inr rfl)) (pgs_cons (pg_tup (by rfl) (pgs_cons (pg_name (i := 6) sc_jobs_of.nd rfl (by first | exact Or.inl rfl | exact Or.inr rfl)) (pgs_cons (pg_name (i := 7) sc_jobs_of.nd rfl (by first | exact Or.inl rfl | exact Or.inr rfl)) pgs_nil))) pgs_nil)))
        (pss_cons (ps_set (i := 8) sc_jobs_of.nd rfl (by first | exact Or.inl rfl | exact Or.inr rfl) (pe_ifExp (pt_cmpR op_isN (pv 4) pe_non (nomark _)) (pe_op op_sub (pv 6) (pe_fld (pv 0) rfl)) (pe_callB (call_max2 rfl) (by rfl) T.b_max (by decide +kernel) (pa_cons (pe_op op_sub (pv 6) (pe_fld (pv 0) rfl)) (pa_cons (pe_op op_add (pv 4) (pe_fld (pv 0) rfl)) pa_nil)))))
        (pss_cons (ps_set (i := 9) sc_jobs_of.nd rfl (by first | exact Or.inl rfl | exact Or.inr rfl) (pe_ifExp (pt_val (pv 2)) (pe_callB (call_max2 rfl) (by rfl) T.b_max (by decide +kernel) (pa_cons (pv 6) (pa_cons (pv 8) pa_nil))) (pv 6)))
        (pss_cons (ps_expr (pe_bm PySem.F.plainAttrs_list PySem.F.slot_list_append PySem.F.type_list_append mt_append (pv 3) (pa_cons (pe_tup (pa_cons (pe_fld (pv 0) rfl) (pa_cons (pv 5) (pa_cons (pv 6) (pa_cons (pv 8) (pa_cons (pv 9) (pa_cons (pv 7) pa_nil))))))) pa_nil)))
        (pss_one (ps_set (i := 4) sc_jobs_of.nd rfl (by first | exact Or.inl rfl | exact Or.inr rfl) (pv 8)))))))
        (pss_one (ps_ret (pv 3)))))), fun B vs P' ⟨v, u, t, rows, gate, hv, ht, hrows, hl, hP⟩ => ?_⟩
  subst hv hP
  refine fun H bh D r n => q_newL (Grow.refl bh) fun l H1 hlf e1 g1 c1 => ?_
  refine q_asg g1 evv_c fun w0 B0 H0' g0 g0' p0 => ?_
  cases p0
  have c0 := c1.grow g0'
  refine q_forI (R := EnR K (DR K pairD)) (evi_enum (evp_var rfl (Mono.up (P := LsOf K (DR K pairD) rows) g0.b hrows))) g0.bh (fun i σ' B' H' => ∃ last ys done y5 y6 y7 y8 y9, σ' = [some v, some u, some (.bl gate), some (.ref l), some (oV last), y5, y6, y7, y8, y9] ∧ Grow B H B' H' ∧ Cell H B' H' l (.lst ys) ∧
    Items (DR K jrD) done B' ys ∧ done.length = i ∧ done ++ jobsOf t gate last i (rows.drop i) = jobsOf t gate none 0 rows) (fun B1 H1 g1 => ⟨none, [], [], none, none, none, none, none, rfl, g0.trans g1, c0.grow g1, .nil, rfl, rfl⟩) ?_ ?_
  · rintro i ⟨q, j⟩ vq σ' B' H' B2 H2 eb bh' hi ⟨last, ys, done, y5, y6, y7, y8, y9, rfl, gr, cl, it, hdl, hd⟩ g2 ⟨Tq, x, rfl, sT, hx⟩
    have zi : j = i ∧ rows[i]? = some q := by
      rw [List.getElem?_zipIdx] at hi
      cases ha : rows[i]? with
      | none => rw [ha] at hi; cases hi
      | some a => rw [ha] at hi; cases hi; exact ⟨by simp, rfl⟩
    obtain ⟨rfl, hq⟩ := zi
    obtain ⟨px, rfl, sx⟩ := dp_tup [.int q.1, .int q.2] hx
    have gr2 := gr.trans g2
    have cl2 := cl.grow g2
    have it2 := Mono.up (P := Items (DR K jrD) done) g2.b it
    have tk : TaskAt K c B2 v t := MonoR.up (g0.b.trans (eb.trans g2.b)) ht
    refine evg_tup (B := B2) sT rfl (evgs_cons evg_name (evgs_cons (evg_tup sx rfl (evgs_cons evg_name (evgs_cons evg_name evgs_nil))) evgs_nil)) H2 g2.bh _ ?_
    -- arrival
    have harr : EvV (tIf (tTest (tOp (fun x y H Q => y = .non ∧ Q (.bl (decide (x = .non))) H) (tVar 4) (tC .non))) (tOp (rI0 fun i j => .int (i - j)) (tVar 6) (tFld K (tVar 0) "wait")) (tCB (fun xs H Q => ∃ i j, xs = [.int i, .int j] ∧ Q (.int (if j > i then j else i)) H) (tCons (tOp (rI0 fun i j => .int (i - j)) (tVar 6) (tFld K (tVar 0) "wait")) (tCons (tOp (rI0 fun i j => .int (i + j)) (tVar 4) (tFld K (tVar 0) "gap")) tNil))))
        [some v, some u, some (.bl gate), some (.ref l), some (oV last), some (.int (j : Nat)), some (.int q.1), some (.int q.2), y8, y9] B2 (.int (arrOf t last q.1)) := by
      cases last with
      | none => exact evv_cast (evv_if (b := true) (y := .non) (evt_test (evv_op (x := .non) (evv_var rfl) evv_c fun _ _ => evr_now (fun H _ Q q => ⟨rfl, q⟩) rfl)) (fun _ => evv_I0 (evv_var rfl) (tk_wait T rfl tk)) fun h => by cases h) rfl
      | some la => exact evv_cast (evv_if (b := false) (x := .non) (evt_test (evv_op (x := .int la) (evv_var rfl) evv_c fun _ _ => evr_now (fun H _ Q q => ⟨rfl, q⟩) rfl)) (fun h => by cases h) fun _ => evv_max2 (evv_I0 (evv_var rfl) (tk_wait T rfl tk)) (evv_I0 (i := la) (evv_var rfl) (tk_gap T rfl tk))) rfl
    refine q_asg gr2 harr fun w3 B3 H3 g3 g3' p3 => ?_
    cases p3
    refine q_asg g3 (evv_if (evt_val (evv_var rfl)) (fun _ => evv_max2 (evv_var rfl) (evv_var rfl)) fun _ => evv_var rfl) fun w4 B4 H4 g4 g4' p4 => ?_
    cases p4
    have cl4 := (cl2.grow g3').grow g4'
    have it4 := Mono.up (P := Items (DR K jrD) done) (g3'.b.trans g4'.b) it2
    have tk4 : TaskAt K c B4 v t := MonoR.up (g3'.b.trans g4'.b) tk
    have hrel : (if gate then V.int (max q.1 (arrOf t last q.1)) else V.int q.1) = V.int (if gate then max q.1 (arrOf t last q.1) else q.1) := by cases gate <;> rfl
    -- found.append(..)
    have hlen : ys.length = j := (Paired.length it).trans hdl
    have hjl : j < rows.length := (List.getElem?_eq_some_iff.mp hq).1
    refine q_app g4 cl4 rfl (evd_tup (K := K) (ds := (jrV ⟨t.name, j, q.1, arrOf t last q.1, if gate then max q.1 (arrOf t last q.1) else q.1, q.2⟩).map vD) (evds_cons (evd_str (tk_name T rfl tk4)) (evds_cons (evd_int (evv_var rfl)) (evds_cons (evd_int (evv_var rfl)) (evds_cons (evd_int (evv_var rfl)) (evds_cons (evd_int (evv_cast (evv_var rfl) hrel)) (evds_cons (evd_int (evv_var rfl)) evds_nil)))))) (by simp [jrV])) (by omega) fun w5 B5 H5 e5 keep5 g5 cl5 d5 => ?_
    refine ⟨_, rfl, ?_⟩
    refine ⟨B5, ?_, g5.bh, some (arrOf t last q.1), ys ++ [w5], done ++ [⟨t.name, j, q.1, arrOf t last q.1, if gate then max q.1 (arrOf t last q.1) else q.1, q.2⟩], _, _, _, _, _, rfl, g5, cl5, ?_, by rw [List.length_append, hdl]; rfl, ?_⟩
    · exact g2.b.trans (g3'.b.trans (g4'.b.trans e5))
    · exact paired_app (Mono.up (P := Items (DR K jrD) done) e5 it4) (.cons d5 .nil)
    · rw [← hd, List.append_assoc]
      have e1 : rows.drop j = q :: rows.drop (j + 1) := by
        rw [List.drop_eq_getElem_cons hjl, (List.getElem?_eq_some_iff.mp hq).2]
      rw [e1]
      rfl
  · rintro σ' B' H' eb bh' ⟨last, ys, done, y5, y6, y7, y8, y9, rfl, gr, cl, it, hdl, hd⟩
    have hz : (rows.zipIdx).length = rows.length := by simp
    rw [hz, List.drop_length] at hd
    have hd' : done = jobsOf t gate none 0 rows := by
      rw [← hd]
      exact (List.append_nil _).symm
    refine ⟨_, rfl, r _ _ _ (gr.freeze cl) ⟨l, ys, rfl, upd_same, ?_⟩⟩
    rw [← hd']
    exact Mono.up (P := Items (DR K jrD) done) (Ex.new gr.bh.l cl.nb) it
/-- the rows of one task, sorted -/
theorem ev_mine {te : TE} {σ : L2.St} {B : Hp} {n : Str} {ws : List W3} (h : EvP te σ B (LsOf K (DR K pairD) (mine n ws))) (hl : ws.length ≤ 10000) : EvP (tCB (rSortedD K) (tCons te tNil)) σ B (LsOf K (DR K pairD) (srt pairD (mine n ws))) :=
  evp_sorted h (alike_pair _) (sortable_pair _) (Nat.le_trans (mine_len _ _) (by omega)) fun b _ => depth_pair b
abbrev s_let_in : Stmt := top 13
theorem sc_let_in : FnScope ["plan", "wishes", "gate", "hour", "task", "work", "found", "rows", "name"] ["plan", "wishes", "gate"] (defScope s_let_in) := ⟨rfl, rfl, rfl, by decide +kernel, rfl, by decide +kernel, by decide +kernel⟩
/- slots: 0=plan 1=wishes 2=gate 3=hour 4=task 5=work 6=found 7=rows 8=name -/
theorem ok_let_in (F : FunD K "let_in" "let_in" (defArgs s_let_in) (defBody s_let_in) (defScope s_let_in) [] [("gate", .bl true)] f fd) (T : Txt K mg c) (G_Plan_tasks : Gm P w K mg base 1 c.Plan "tasks" ["self"] [] (Pure (R_planTasks K c)))
    (G_need_wish : Gf P w K mg base 2 "need_wish" ["plan", "task", "work"] [] (Pure (R_needWish K c))) (G_jobs_of : Gf P w K mg base 1 "jobs_of" ["task", "rows", "gate"] [] (Pure (R_jobsOf K c))) :
    FnOk P w K mg base CX0 3 f fd ["plan", "wishes", "gate"] (Pure (R_letIn K c)) := by
  refine pureD_ok F sc_let_in (fun B vs P' ⟨v, u, ts, ws, gate, h, _⟩ => by rw [h]; rfl) fun cdv A outer s H0 E hr => ?_
  refine ⟨_, (pss_cons (ps_for PassesOwn.never rfl (pi_list (pv 1)) (pg_tup (by rfl) (pgs_cons (pg_name (i := 3) sc_let_in.nd rfl (by first | exact Or.inl rfl | exact Or.inr rfl)) (pgs_cons (pg_name (i := 4) sc_let_in.nd rfl (by first | exact Or.inl rfl | exact Or.inr rfl)) (pgs_cons (pg_name (i := 5) sc_let_in.nd rfl (by first | exact Or.inl rfl | exact Or.inr rfl)) pgs_nil))))
        (pss_one (ps_expr (pe_g G_need_wish (hr.mono (by decide)) (by rfl) (pa_cons (pv 0) (pa_cons (pv 4) (pa_cons (pv 5) pa_nil)))))))
        (pss_cons (ps_set (i := 6) sc_let_in.nd rfl (by first | exact Or.inl rfl | exact Or.inr rfl) (pe_lst pa_nil))
        (pss_cons (ps_for PassesOwn.never rfl (pi_list (pe_gm0 (pv 0) T.c_Plan G_Plan_tasks (hr.mono (by decide)))) (pg_name (i := 4) sc_let_in.nd rfl (by first | exact Or.inl rfl | exact Or.inr rfl))
        (pss_cons (ps_set (i := 7) sc_let_in.nd rfl (by first | exact Or.inl rfl | exact Or.inr rfl) (pe_callB (call_sortedDat hr.units) (by rfl) T.b_sorted (by decide +kernel) (pa_cons (pe_lc (own := [("hour", 3), ("name", 8), ("work", 5)]) rfl sc_let_in.nd (pi_list (pv 1)) (blkOk_by (N := ["plan", "wishes", "gate", "hour", "task", "work", "found", "rows", "name"]) (sc := defScope s_let_in) (by decide +kernel)) (fun _ _ _ _ _ => (pg_tupK (K := K) (n := 3) rfl (by rfl) (pgs_cons (pg_name (i := 3) sc_let_in.nd rfl (by first | exact Or.inl rfl | exact Or.inr rfl)) (pgs_cons (pg_name (i := 8) sc_let_in.nd rfl (by first | exact Or.inl rfl | exact Or.inr rfl)) (pgs_cons (pg_name (i := 5) sc_let_in.nd rfl (by first | exact Or.inl rfl | exact Or.inr rfl)) pgs_nil))))) (fun _ _ _ _ _ => pts_one (pt_cmpR op_eq (pv 8) (pe_fldK (K := K) rfl (pv 4) rfl) (nomark _))) (fun _ _ _ _ _ => (pe_tup (pa_cons (pv 3) (pa_cons (pv 5) pa_nil))))) pa_nil)))
        (pss_one (ps_expr (pe_bm PySem.F.plainAttrs_list PySem.F.slot_list_extend PySem.F.type_list_extend mt_extend (pv 6) (pa_cons (pe_g G_jobs_of (hr.mono (by decide)) (by rfl) (pa_cons (pv 4) (pa_cons (pv 7) (pa_cons (pv 2) pa_nil)))) pa_nil))))))
        (pss_one (ps_ret (pv 6)))))), fun B vs P' ⟨v, u, ts, ws, gate, hv, hp, hl, hw, hwl, hws, hP⟩ => ?_⟩
  subst hv hP
  refine fun H bh D r n => q_forI (R := DR K wD) (evi_list (evp_var rfl hw)) bh (fun i σ' B' H' => ∃ y3 y4 y5, σ' = [some v, some u, some (.bl gate), y3, y4, y5, none, none, none] ∧ Grow B H B' H') (fun B1 H1 g1 => ⟨none, none, none, rfl, g1⟩) ?_ ?_
  · rintro i q vq σ' B' H' B2 H2 eb bh' hi ⟨y3, y4, y5, rfl, gr⟩ g2 hq
    obtain ⟨px, rfl, sx⟩ := dp_tup [.int q.1, .str q.2.1, .int q.2.2] hq
    obtain ⟨ht, hk⟩ := hws q (List.mem_of_getElem? hi)
    refine evg_tup (B := B2) sx rfl (evgs_cons evg_name (evgs_cons evg_name (evgs_cons evg_name evgs_nil))) H2 g2.bh _ ?_
    refine s_dropE g2 (Pa := Is .non) (evp_call (evas_cons (evv_var rfl) (evas_cons (evv_var rfl) (evas_cons (evv_var rfl) eva_nil))) fun B3 vs e3 hvs => ?_) fun w3 B3 H3 g3 g3' p3 => ⟨B3, g2.b.trans g3.b, g3.bh, _, _, _, rfl, gr.trans g3'⟩
    cases hvs
    exact ⟨_, ts, _, _, rfl, MonoR.up (R := PlanAt K c) ((eb.trans g2.b).trans e3) hp, hl, ht, hk, rfl⟩
  · rintro σ' B' H' eb bh' ⟨y3, y4, y5, rfl, gr⟩
    refine q_newL gr fun l H1 hlf e1 g1 c1 => ?_
    refine q_forI (R := TaskAt K c) (evi_list (ev_tasks (evv_var rfl) (MonoR.up (R := PlanAt K c) eb hp))) g1.bh (fun i σ' B' H' => ∃ ys done y3 y4 y5 y7 y8, σ' = [some v, some u, some (.bl gate), y3, y4, y5, some (.ref l), y7, y8] ∧ Grow B H B' H' ∧ Cell H B' H' l (.lst ys) ∧
      Items (DR K jrD) done B' ys ∧ done = ((byRank ts).take i).flatMap fun t => jobsOf t gate none 0 (srt pairD (mine t.name ws))) (fun B3 H3 g3 => ⟨[], [], y3, y4, y5, none, none, rfl, g1.trans g3, c1.grow g3, .nil, rfl⟩) ?_ ?_
    · rintro i t vt σ' B3 H3 B4 H4 e3 b3 hi ⟨ys, done, y3, y4, y5, y7, y8, rfl, g3, c3, it3, hd3⟩ g4 ht
      have hws4 : LsOf K (DR K wD) ws B4 u := Mono.up (P := LsOf K (DR K wD) ws) ((eb.trans e3).trans g4.b) hw
      have g34 := g3.trans g4
      have c4 := c3.grow g4
      have it4 := Mono.up (P := Items (DR K jrD) done) g4.b it3
      refine (evg_name (B := B4)) H4 g4.bh _ ?_
      refine q_asg g34 (ev_mine (n := t.name) (ws := ws) (by
        unfold mine
        refine evp_lcI (K := K) (R := DR K wD) (S := DR K pairD) (fun q : W3 => decide (V.str q.2.1 = V.str t.name)) (fun q : W3 => (q.1, q.2.2)) (evi_list (evp_var rfl hws4)) (by omega) fun B5 x q e5 hq hx => ?_
        obtain ⟨px, rfl, sx⟩ := dp_tup [.int q.1, .str q.2.1, .int q.2.2] hx
        have ht5 : TaskAt K c B5 vt t := MonoR.up e5 ht
        exact ⟨_, evg_tup sx rfl (evgs_cons evg_name (evgs_cons evg_name (evgs_cons evg_name evgs_nil))), rfl, evt_test (evv_eq (evv_var rfl) (tk_name T rfl ht5) rfl), fun _ => evd_tup (K := K) (ds := [.int q.1, .int q.2.2]) (evds_cons (evd_int (evv_var rfl)) (evds_cons (evd_int (evv_var rfl)) evds_nil)) (by simp)⟩) hwl) fun rv B5 H5 g5 g5' hrows => ?_
      have hlen4 : ys.length ≤ 60 * 10000 := by
        rw [show ys.length = done.length from Paired.length it3, hd3]
        refine Nat.le_trans (flat_len_le (m := 10000) fun t _ => ?_) (Nat.mul_le_mul_right _ (Nat.le_trans (List.length_take_le' _ _) (by rw [(byRank_perm ts).length_eq]; exact hl)))
        rw [jobsOf_len, srt_len]
        exact Nat.le_trans (mine_len _ _) hwl
      have hml : (srt pairD (mine t.name ws)).length ≤ 10000 := by
        rw [srt_len]
        exact Nat.le_trans (mine_len _ _) hwl
      have c5 := c4.grow g5'
      have it5 := Mono.up (P := Items (DR K jrD) done) g5'.b it4
      refine s_ext (R := DR K jrD) (as := jobsOf t gate none 0 (srt pairD (mine t.name ws))) g5 c5 rfl (evp_call (evas_cons (evv_var rfl) (evas_cons (evv_var rfl) (evas_cons (evv_var rfl) eva_nil))) fun B6 vs e6 hvs => ?_) (by rw [jobsOf_len]; omega) fun zs B6 H6 e6 keep6 g6 c6 it6 => ?_
      · cases hvs
        exact ⟨vt, rv, t, _, gate, rfl, MonoR.up (g5'.b.trans e6) ht, Mono.up (P := LsOf K (DR K pairD) _) e6 hrows, hml, rfl⟩
      · refine ⟨B6, g4.b.trans (g5'.b.trans e6), g6.bh, ys ++ zs, done ++ jobsOf t gate none 0 (srt pairD (mine t.name ws)), _, _, _, _, _, rfl, g6, c6, paired_app (Mono.up (P := Items (DR K jrD) done) e6 it5) it6, ?_⟩
        rw [flat_next hi, hd3]
    · rintro σ' B3 H3 e3 b3 ⟨ys, done, y3, y4, y5, y7, y8, rfl, g3, c3, it3, hd3⟩
      rw [List.take_length] at hd3
      refine ⟨_, rfl, r _ _ _ (g3.freeze c3) ⟨l, ys, rfl, upd_same, ?_⟩⟩
      rw [show letIn ts gate ws = done from hd3.symm]
      exact Mono.up (P := Items (DR K jrD) done) (Ex.new g3.bh.l c3.nb) it3
end
end K7

set_option Elab.async false
set_option linter.all false
set_option maxRecDepth 100000
set_option maxHeartbeats 4000000
namespace K7
open PySem PySem.Spec PySem.W L2 Pw
open PyProof.Rows hiding St
open Evl (sq_of st_of)
variable [Tbs]
/-! ### jobs (of tasks without sections) -/
structure Jb where
  t : TaskD
  r : JR
  ticks : Int
  ended : Option Int
def jobF (tv bv : V) (j : Jb) : List (Str × V) := [("kind", tv), ("place", .int j.r.num), ("came", .int j.r.hour), ("arrived", .int j.r.arr), ("freed", .int j.r.rel), ("load", .int j.r.work), ("ticks", .int j.ticks), ("ended", oV j.ended), ("barriers", bv)]
/-- what stands for good beside a job's attributes -/
def JobIs (K : PySem.W.Frag) (c : Cs) (j : Jb) : Hp → List (Str × V) → Prop := fun B fs => ∃ tv bv, fs = jobF tv bv j ∧ TaskAt K c B tv j.t ∧ LsOf K (VR V.int) ([] : List Int) B bv
def JobAt (K : PySem.W.Frag) (c : Cs) : Rl Jb := fun B v j => ∃ a dx fs, v = .ref a ∧ B a = some (.ins c.Job dx fs) ∧ JobIs K c j B fs
theorem JobIs.up {K : PySem.W.Frag} {c : Cs} {j : Jb} {B B' : Hp} {fs : List (Str × V)} (e : Ex B B') (h : JobIs K c j B fs) : JobIs K c j B' fs := let ⟨tv, bv, h1, h2, h3⟩ := h; ⟨tv, bv, h1, MonoR.up e h2, Mono.up (P := LsOf K (VR V.int) ([] : List Int)) e h3⟩
instance {K : PySem.W.Frag} {c : Cs} : MonoR (JobAt K c) := ⟨fun e ⟨a, dx, fs, h, h1, h2⟩ => ⟨a, dx, fs, h, e _ _ h1, h2.up e⟩⟩
def goalOf (g : Bool) (j : Jb) : Int := if g then min j.r.work j.t.most else j.r.work
def urgD (j : Jb) : PyData := .tuple [.int j.t.rank, .int 1, .int j.r.num]
def R_jobSecs (K : PySem.W.Frag) (c : Cs) : Hp → List V → (Hp → V → Prop) → Prop := fun B vs P => ∃ (v : V) (j : Jb), vs = [v] ∧ JobAt K c B v j ∧ P = LsOf K (VR V.int) []
def R_urgency (K : PySem.W.Frag) (c : Cs) : Hp → List V → (Hp → V → Prop) → Prop := fun B vs P => ∃ (v : V) (j : Jb), vs = [v] ∧ JobAt K c B v j ∧ P = fun B' w => Dp K B' w (urgD j)
def R_goal (K : PySem.W.Frag) (c : Cs) : Hp → List V → (Hp → V → Prop) → Prop := fun B vs P => ∃ (v : V) (j : Jb) (g : Bool), vs = [v, .bl g] ∧ JobAt K c B v j ∧ P = Is (.int (goalOf g j))
def R_turns (K : PySem.W.Frag) (c : Cs) : Hp → List V → (Hp → V → Prop) → Prop := fun B vs P => ∃ (v : V) (j : Jb) (g : Bool), vs = [v, .bl g] ∧ JobAt K c B v j ∧ j.ticks < goalOf g j ∧ P = Is (.int (goalOf g j))
def minO (ns : List Int) : Option Int := match ns with
  | [] => none
  | n :: r => some (r.foldl min n)
theorem minO_v (ns : List Int) : minOr .non ns = oV (minO ns) := by cases ns <;> rfl
def nextRel (js : List Jb) (h : Int) : Option Int := minO ((js.filter fun j => decide (j.r.rel > h)).map fun j => j.r.rel)
def R_nextRelease (K : PySem.W.Frag) (c : Cs) : Hp → List V → (Hp → V → Prop) → Prop := fun B vs P => ∃ (v : V) (js : List Jb) (h : Int), vs = [v, .int h] ∧ LsOf K (JobAt K c) js B v ∧ js.length ≤ 100000 ∧ P = Is (oV (nextRel js h))
def toldD (j : Jb) : PyData := .tuple ([.str j.t.name, .int j.r.num, .int j.r.arr, .int j.r.rel, .int j.r.work, .int j.ticks] ++ [match j.ended with | none => .none | some e => .int e])
def R_told (K : PySem.W.Frag) (c : Cs) : Hp → List V → (Hp → V → Prop) → Prop := fun B vs P => ∃ (v : V) (j : Jb), vs = [v] ∧ JobAt K c B v j ∧ P = fun B' w => Dp K B' w (toldD j)
section
variable {P : Program} {w : World} {K : PySem.W.Frag} {mg : Str → Option Value} {base : Heap} {c : Cs} {f : Addr} {fd : FuncData}
section
variable {σ : L2.St} {B : Hp} {i : Nat} {v : V} {j : Jb} {te : TE} {t : TaskD}
theorem tkE_name (T : Txt K mg c) (hv : EvV te σ B v) (h : TaskAt K c B v t) : EvV (tFld K te "name") σ B (.str t.name) := by
  obtain ⟨a, dx, sv, rfl, h1⟩ := tk_at h
  exact evv_fld hv h1 T.c_Task T.n_Task_name rfl
theorem tkE_rank (T : Txt K mg c) (hv : EvV te σ B v) (h : TaskAt K c B v t) : EvV (tFld K te "rank") σ B (.int t.rank) := by
  obtain ⟨a, dx, sv, rfl, h1⟩ := tk_at h
  exact evv_fld hv h1 T.c_Task T.n_Task_rank rfl
theorem tkE_most (T : Txt K mg c) (hv : EvV te σ B v) (h : TaskAt K c B v t) : EvV (tFld K te "most") σ B (.int t.most) := by
  obtain ⟨a, dx, sv, rfl, h1⟩ := tk_at h
  exact evv_fld hv h1 T.c_Task T.n_Task_most rfl
theorem jb_kind (T : Txt K mg c) (hv : EvV te σ B v) (h : JobAt K c B v j) : ∃ tv, EvV (tFld K te "kind") σ B tv ∧ TaskAt K c B tv j.t := by
  obtain ⟨a, dx, fs, rfl, h1, tv, bv, rfl, h2, h3⟩ := h
  exact ⟨tv, evv_fld hv h1 T.c_Job T.n_Job_kind rfl, h2⟩
theorem jb_place (T : Txt K mg c) (hv : EvV te σ B v) (h : JobAt K c B v j) : EvV (tFld K te "place") σ B (.int j.r.num) := by
  obtain ⟨a, dx, fs, rfl, h1, tv, bv, rfl, h2, h3⟩ := h
  exact evv_fld hv h1 T.c_Job T.n_Job_place rfl
theorem jb_arrived (T : Txt K mg c) (hv : EvV te σ B v) (h : JobAt K c B v j) : EvV (tFld K te "arrived") σ B (.int j.r.arr) := by
  obtain ⟨a, dx, fs, rfl, h1, tv, bv, rfl, h2, h3⟩ := h
  exact evv_fld hv h1 T.c_Job T.n_Job_arrived rfl
theorem jb_freed (T : Txt K mg c) (hv : EvV te σ B v) (h : JobAt K c B v j) : EvV (tFld K te "freed") σ B (.int j.r.rel) := by
  obtain ⟨a, dx, fs, rfl, h1, tv, bv, rfl, h2, h3⟩ := h
  exact evv_fld hv h1 T.c_Job T.n_Job_freed rfl
theorem jb_load (T : Txt K mg c) (hv : EvV te σ B v) (h : JobAt K c B v j) : EvV (tFld K te "load") σ B (.int j.r.work) := by
  obtain ⟨a, dx, fs, rfl, h1, tv, bv, rfl, h2, h3⟩ := h
  exact evv_fld hv h1 T.c_Job T.n_Job_load rfl
theorem jb_ticks (T : Txt K mg c) (hv : EvV te σ B v) (h : JobAt K c B v j) : EvV (tFld K te "ticks") σ B (.int j.ticks) := by
  obtain ⟨a, dx, fs, rfl, h1, tv, bv, rfl, h2, h3⟩ := h
  exact evv_fld hv h1 T.c_Job T.n_Job_ticks rfl
theorem jb_ended (T : Txt K mg c) (hv : EvV te σ B v) (h : JobAt K c B v j) : EvV (tFld K te "ended") σ B (oV j.ended) := by
  obtain ⟨a, dx, fs, rfl, h1, tv, bv, rfl, h2, h3⟩ := h
  exact evv_fld hv h1 T.c_Job T.n_Job_ended rfl
theorem jb_barriers (T : Txt K mg c) (hv : EvV te σ B v) (h : JobAt K c B v j) : EvP (tFld K te "barriers") σ B (LsOf K (VR V.int) ([] : List Int)) := by
  obtain ⟨a, dx, fs, rfl, h1, tv, bv, rfl, h2, h3⟩ := h
  exact evp_fld hv h1 T.c_Job T.n_Job_barriers rfl h3
/-- a method of a job -/
theorem ev_job {m : Str} {R : Hp → List V → (Hp → V → Prop) → Prop} {E : XK} {tr : TA} {us : List V} {Pv : Hp → V → Prop} (hv : EvV te σ B v) (h : JobAt K c B v j) (hm : (jobF .non .non j).lookup m = none) (ha : EvA tr σ B (Iss us)) (k : ∀ B', Ex B B' → R B' (v :: us) Pv) : EvP (tMeth c.Job m (Pure R) [] E te tr) σ B Pv := by
  obtain ⟨a, dx, fs, rfl, h1, tv, bv, rfl, h2, h3⟩ := h
  have hm' : (jobF tv bv j).lookup m = none := by
    unfold jobF at hm ⊢
    simp only [List.lookup] at hm ⊢
    revert hm
    repeat' split
    all_goals first | (intro h; cases h; done) | exact fun h => h
  refine evp_meth hv h1 hm' ha fun B' vs e hvs => ?_
  cases hvs
  rw [List.append_nil]
  exact k B' e
end
abbrev s_Job_sections_now : Stmt := inClass (top 15) 1
theorem sc_Job_sections_now : FnScope ["self", "start", "stop", "level", "lock"] ["self"] (defScope s_Job_sections_now) := ⟨rfl, rfl, rfl, by decide +kernel, rfl, by decide +kernel, by decide +kernel⟩
/- slots: 0=self 1=start 2=stop 3=level 4=lock -/
theorem ok_Job_sections_now (F : Fun K "sections_now" "Job.sections_now" s_Job_sections_now f fd) (T : Txt K mg c) : FnOk P w K mg base CX0 1 f fd ["self"] (Pure (R_jobSecs K c)) := by
  refine pure_ok F sc_Job_sections_now (fun B vs P' ⟨v, j, h, _⟩ => by rw [h]; rfl) fun cdv A outer s H0 E hr => ?_
  refine ⟨_, (pss_one (ps_ret (pe_lc (own := [("start", 1), ("stop", 2), ("level", 3), ("lock", 4)]) rfl sc_Job_sections_now.nd (pi_list (pe_fld (pv 0) rfl)) (blkOk_by (N := ["self", "start", "stop", "level", "lock"]) (sc := defScope s_Job_sections_now) (by decide +kernel)) (fun _ _ _ _ _ => (pg_tupK (K := K) (n := 4) rfl (by rfl) (pgs_cons (pg_name (i := 1) sc_Job_sections_now.nd rfl (by first | exact Or.inl rfl | exact Or.inr rfl)) (pgs_cons (pg_name (i := 2) sc_Job_sections_now.nd rfl (by first | exact Or.inl rfl | exact Or.inr rfl)) (pgs_cons (pg_name (i := 3) sc_Job_sections_now.nd rfl (by first | exact Or.inl rfl | exact Or.inr rfl)) (pgs_cons (pg_name (i := 4) sc_Job_sections_now.nd rfl (by first | exact Or.inl rfl | exact Or.inr rfl)) pgs_nil)))))) (fun _ _ _ _ _ => pts_one (pt_chain op_lt op_lt (pv 1) (pe_fldK (K := K) rfl (pv 0) rfl) (pv 2))) (fun _ _ _ _ _ => (pe_tup (pa_cons (pv 3) (pa_cons (pv 4) pa_nil))))))), fun B vs P' ⟨v, j, hv, hj, hP⟩ => ?_⟩
  subst hv hP
  exact evs_ret (evp_lcI (K := K) (R := VR V.int) (S := VR V.int) (fun _ => true) (fun n : Int => n) (evi_list (jb_barriers T (evv_var rfl) hj)) (by simp) fun B' x a e ha hx => nomatch ha)
abbrev s_Job_urgency : Stmt := inClass (top 15) 2
theorem sc_Job_urgency : FnScope ["self", "levels", "level", "lock"] ["self"] (defScope s_Job_urgency) := ⟨rfl, rfl, rfl, by decide +kernel, rfl, by decide +kernel, by decide +kernel⟩
/- slots: 0=self 1=levels 2=level 3=lock -/
theorem ok_Job_urgency (F : Fun K "urgency" "Job.urgency" s_Job_urgency f fd) (T : Txt K mg c) (G_Job_sections_now : Gm P w K mg base 1 c.Job "sections_now" ["self"] [] (Pure (R_jobSecs K c))) : FnOk P w K mg base CX0 2 f fd ["self"] (Pure (R_urgency K c)) := by
  refine pure_ok F sc_Job_urgency (fun B vs P' ⟨v, j, h, _⟩ => by rw [h]; rfl) fun cdv A outer s H0 E hr => ?_
  refine ⟨_, (pss_cons (ps_setLc (i := 1) (own := [("level", 2), ("lock", 3)]) rfl sc_Job_urgency.nd rfl rfl (sw_true rfl rfl rfl (by decide +kernel)) (pi_list (pe_gm0 (pv 0) T.c_Job G_Job_sections_now (hr.mono (by decide)))) (blkOk_by (N := ["self", "levels", "level", "lock"]) (sc := defScope s_Job_urgency) (by decide +kernel)) (fun _ _ _ _ _ => (pg_tupK (K := K) (n := 2) rfl (by rfl) (pgs_cons (pg_name (i := 2) sc_Job_urgency.nd rfl (by first | exact Or.inl rfl | exact Or.inr rfl)) (pgs_cons (pg_name (i := 3) sc_Job_urgency.nd rfl (by first | exact Or.inl rfl | exact Or.inr rfl)) pgs_nil)))) (fun _ _ _ _ _ => pts_nil) (fun _ _ _ _ _ => (pv 2)))
        (pss_one (ps_ret (pe_tup (pa_cons (pe_callB (cr_min rfl) (by rfl) T.b_min (by decide +kernel) (pa_cons (pe_op op_cat (pv 1) (pe_lst (pa_cons (pe_fld (pe_fld (pv 0) rfl) rfl) pa_nil))) pa_nil)) (pa_cons (pe_ifExp (pt_cmpR (op_neD hr.units) (pv 1) (pe_lst pa_nil) (nomark _)) pe_int pe_int) (pa_cons (pe_fld (pv 0) rfl) pa_nil))))))), fun B vs P' ⟨v, j, hv, hj, hP⟩ => ?_⟩
  subst hv hP
  refine evs_asg (Pa := LsOf K (VR V.int) ([] : List Int)) (evp_lcA (K := K) (R := VR V.int) (S := VR V.int) (as := []) (fun n : Int => n) (evi_list (ev_job (evv_var rfl) hj rfl eva_nil fun B' e => ⟨v, j, rfl, MonoR.up e hj, rfl⟩)) (by simp) fun B' x a e ha hx => nomatch ha) fun lv B1 e1 hl => ?_
  have hj1 : JobAt K c B1 v j := MonoR.up e1 hj
  obtain ⟨tv, hk, ht⟩ := jb_kind T (evv_var (i := 0) (σ := [some v, some lv, none, none]) rfl) hj1
  refine evs_ret (evd_tup (K := K) (ds := [.int j.t.rank, .int 1, .int j.r.num]) (evds_cons (evd_int ?_) (evds_cons (evd_int ?_) (evds_cons (evd_int (jb_place T (evv_var rfl) hj1)) evds_nil))) (by simp))
  · exact evv_minL (r := []) (evp_cat (K := K) (R := VR V.int) (as := []) (bs := [j.t.rank]) (evp_var rfl hl) (evp_lstV (fe := V.int) (as := [j.t.rank]) (evas_cons (tkE_rank T hk ht) eva_nil) (by simp)) (by simp))
  · exact evv_cast (evv_if (b := false) (x := .int 0) (evt_eq (evt_test (evd_ne (d := .list []) (e := .list []) (EvP.imp (evp_var (i := 1) (P := LsOf K (VR V.int) ([] : List Int)) rfl hl) fun _ _ _ h => ls_data h) (evd_lst evds_nil) rfl rfl)) rfl) (fun h => by cases h) fun _ => evv_c) rfl
abbrev s_Job_goal : Stmt := inClass (top 15) 3
theorem sc_Job_goal : FnScope ["self", "guard"] ["self", "guard"] (defScope s_Job_goal) := ⟨rfl, rfl, rfl, by decide +kernel, rfl, by decide +kernel, by decide +kernel⟩
/- slots: 0=self 1=guard -/
theorem ok_Job_goal (F : Fun K "goal" "Job.goal" s_Job_goal f fd) (T : Txt K mg c) : FnOk P w K mg base CX0 1 f fd ["self", "guard"] (Pure (R_goal K c)) := by
  refine pure_ok F sc_Job_goal (fun B vs P' ⟨v, j, g, h, _⟩ => by rw [h]; rfl) fun cdv A outer s H0 E hr => ?_
  refine ⟨_, (pss_one (ps_ret (pe_ifExp (pt_val (pv 1)) (pe_callB (call_min2 rfl) (by rfl) T.b_min (by decide +kernel) (pa_cons (pe_fld (pv 0) rfl) (pa_cons (pe_fld (pe_fld (pv 0) rfl) rfl) pa_nil))) (pe_fld (pv 0) rfl)))), fun B vs P' ⟨v, j, g, hv, hj, hP⟩ => ?_⟩
  subst hv hP
  obtain ⟨tv, hk, ht⟩ := jb_kind T (evv_var (i := 0) (σ := [some v, some (.bl g)]) rfl) hj
  refine evs_ret (evv_cast (evv_if (evt_val (evv_var rfl)) (fun _ => evv_min2 (jb_load T (evv_var rfl) hj) (tkE_most T hk ht)) fun _ => jb_load T (evv_var rfl) hj) ?_)
  unfold goalOf
  cases g <;> rfl
abbrev s_Job_turns : Stmt := inClass (top 15) 5
theorem sc_Job_turns : FnScope ["self", "guard", "found", "start", "stop", "level", "lock", "ticks"] ["self", "guard"] (defScope s_Job_turns) := ⟨rfl, rfl, rfl, by decide +kernel, rfl, by decide +kernel, by decide +kernel⟩
/- slots: 0=self 1=guard 2=found 3=start 4=stop 5=level 6=lock 7=ticks -/
theorem ok_Job_turns (F : Fun K "turns" "Job.turns" s_Job_turns f fd) (T : Txt K mg c) (G_Job_goal : Gm P w K mg base 1 c.Job "goal" ["self", "guard"] [] (Pure (R_goal K c))) : FnOk P w K mg base CX0 2 f fd ["self", "guard"] (Pure (R_turns K c)) := by
  refine pure_ok F sc_Job_turns (fun B vs P' ⟨v, j, g, h, _⟩ => by rw [h]; rfl) fun cdv A outer s H0 E hr => ?_
  refine ⟨_, (pss_cons (ps_set (i := 2) sc_Job_turns.nd rfl (by first | exact Or.inl rfl | exact Or.inr rfl) (pe_lst (pa_cons (pe_gm (pv 0) T.c_Job G_Job_goal (hr.mono (by decide)) (pa_cons (pv 1) pa_nil)) pa_nil)))
        (pss_cons (ps_for PassesOwn.never rfl (pi_list (pe_fld (pv 0) rfl)) (pg_tup (by rfl) (pgs_cons (pg_name (i := 3) sc_Job_turns.nd rfl (by first | exact Or.inl rfl | exact Or.inr rfl)) (pgs_cons (pg_name (i := 4) sc_Job_turns.nd rfl (by first | exact Or.inl rfl | exact Or.inr rfl)) (pgs_cons (pg_name (i := 5) sc_Job_turns.nd rfl (by first | exact Or.inl rfl | exact Or.inr rfl)) (pgs_cons (pg_name (i := 6) sc_Job_turns.nd rfl (by first | exact Or.inl rfl | exact Or.inr rfl)) pgs_nil)))))
        (pss_one (ps_expr (pe_bm PySem.F.plainAttrs_list PySem.F.slot_list_extend PySem.F.type_list_extend mt_extend (pv 2) (pa_cons (pe_lst (pa_cons (pe_op op_add (pv 3) pe_int) (pa_cons (pv 4) pa_nil))) pa_nil)))))
        (pss_one (ps_ret (pe_callB (cr_min rfl) (by rfl) T.b_min (by decide +kernel) (pa_cons (pe_lc (own := [("ticks", 7)]) rfl sc_Job_turns.nd (pi_list (pv 2)) (blkOk_by (N := ["self", "guard", "found", "start", "stop", "level", "lock", "ticks"]) (sc := defScope s_Job_turns) (by decide +kernel)) (fun _ _ _ _ _ => (pg_name (i := 7) sc_Job_turns.nd rfl (by first | exact Or.inl rfl | exact Or.inr rfl))) (fun _ _ _ _ _ => pts_one (pt_cmpR op_gt (pv 7) (pe_fldK (K := K) rfl (pv 0) rfl) (nomark _))) (fun _ _ _ _ _ => (pv 7))) pa_nil)))))), fun B vs P' ⟨v, j, g, hv, hj, hlt, hP⟩ => ?_⟩
  subst hv hP
  refine evs_asg (Pa := LsOf K (VR V.int) [goalOf g j]) (evp_lstV (fe := V.int) (as := [goalOf g j]) (evas_cons (ev_job (evv_var rfl) hj rfl (evas_cons (evv_var rfl) eva_nil) fun B' e => ⟨v, j, g, rfl, MonoR.up e hj, rfl⟩) eva_nil) (by simp)) fun fv B1 e1 hl => ?_
  have hj1 : JobAt K c B1 v j := MonoR.up e1 hj
  refine evs_forI (R := VR V.int) (evi_list (jb_barriers T (evv_var rfl) hj1)) (fun _ B' σ' => σ' = [some v, some (.bl g), some fv, none, none, none, none, none]) rfl (fun i a x σ' B' _ ha => nomatch ha) fun σ' B2 e2 hσ => ?_
  subst hσ
  have hj2 : JobAt K c B2 v j := MonoR.up e2 hj1
  refine evs_ret (evv_minL (r := []) (EvP.imp (evp_lcI (K := K) (R := VR V.int) (S := VR V.int) (as := [goalOf g j]) (fun n => decide (n > j.ticks)) (fun n : Int => n) (evi_list (evp_var rfl (Mono.up (P := LsOf K (VR V.int) [goalOf g j]) e2 hl))) (by simp) fun B' x a e ha hx => ?_) fun _ _ _ h => ?_))
  · subst hx
    exact ⟨_, evg_name, rfl, evt_test (evv_I0 (evv_var rfl) (jb_ticks T (evv_var rfl) (MonoR.up e hj2))), fun _ => evv_var rfl⟩
  · have e3 : ([goalOf g j].filter fun n => decide (n > j.ticks)) = [goalOf g j] := by simp [hlt]
    rw [e3] at h
    exact h
abbrev s_next_release : Stmt := top 17
theorem sc_next_release : FnScope ["waiting", "hour", "later", "job"] ["waiting", "hour"] (defScope s_next_release) := ⟨rfl, rfl, rfl, by decide +kernel, rfl, by decide +kernel, by decide +kernel⟩
/- slots: 0=waiting 1=hour 2=later 3=job -/
theorem ok_next_release (F : Fun K "next_release" "next_release" s_next_release f fd) (T : Txt K mg c) : FnOk P w K mg base CX0 1 f fd ["waiting", "hour"] (Pure (R_nextRelease K c)) := by
  refine pure_ok F sc_next_release (fun B vs P' ⟨v, js, h, e, _⟩ => by rw [e]; rfl) fun cdv A outer s H0 E hr => ?_
  refine ⟨_, (pss_cons (ps_setLc (i := 2) (own := [("job", 3)]) rfl sc_next_release.nd rfl rfl (sw_true rfl rfl rfl (by decide +kernel)) (pi_list (pv 0)) (blkOk_by (N := ["waiting", "hour", "later", "job"]) (sc := defScope s_next_release) (by decide +kernel)) (fun _ _ _ _ _ => (pg_name (i := 3) sc_next_release.nd rfl (by first | exact Or.inl rfl | exact Or.inr rfl))) (fun _ _ _ _ _ => pts_one (pt_cmpR op_gt (pe_fldK (K := K) rfl (pv 3) rfl) (pv 1) (nomark _))) (fun _ _ _ _ _ => (pe_fldK (K := K) rfl (pv 3) rfl)))
        (pss_one (ps_ret (pe_callBK (cr_minDflt rfl hr.units) (by rfl) T.b_min (by decide +kernel) (pa_cons (pv 2) pa_nil) (pk_cons pe_non pk_nil))))), fun B vs P' ⟨v, js, h, hv, hj, hl, hP⟩ => ?_⟩
  subst hv hP
  refine evs_asg (Pa := LsOf K (VR V.int) ((js.filter fun j : Jb => decide (j.r.rel > h)).map fun j : Jb => j.r.rel)) (evp_lcI (K := K) (R := JobAt K c) (S := VR V.int) (fun j : Jb => decide (j.r.rel > h)) (fun j : Jb => j.r.rel) (evi_list (evp_var rfl hj)) (by omega) fun B' x a e ha hx => ?_) fun lv B1 e1 hl => ?_
  · exact ⟨_, evg_name, rfl, evt_test (evv_I0 (jb_freed T (evv_var rfl) hx) (evv_var rfl)), fun _ => jb_freed T (evv_var rfl) hx⟩
  · refine evs_ret (evv_cast (evv_minDflt (evp_var rfl hl) evv_c) ?_)
    exact minO_v _
abbrev s_told_of : Stmt := top 20
theorem sc_told_of : FnScope ["job"] ["job"] (defScope s_told_of) := ⟨rfl, rfl, rfl, by decide +kernel, rfl, by decide +kernel, by decide +kernel⟩
/- slots: 0=job -/
theorem ok_told_of (F : Fun K "told_of" "told_of" s_told_of f fd) (T : Txt K mg c) : FnOk P w K mg base CX0 1 f fd ["job"] (Pure (R_told K c)) := by
  refine pure_ok F sc_told_of (fun B vs P' ⟨v, j, h, _⟩ => by rw [h]; rfl) fun cdv A outer s H0 E hr => ?_
  refine ⟨_, (pss_one (ps_ret (pe_tup (pa_cons (pe_fld (pe_fld (pv 0) rfl) rfl) (pa_cons (pe_fld (pv 0) rfl) (pa_cons (pe_fld (pv 0) rfl) (pa_cons (pe_fld (pv 0) rfl) (pa_cons (pe_fld (pv 0) rfl) (pa_cons (pe_fld (pv 0) rfl) (pa_cons (pe_fld (pv 0) rfl) pa_nil)))))))))), fun B vs P' ⟨v, j, hv, hj, hP⟩ => ?_⟩
  subst hv hP
  obtain ⟨tv, hk, ht⟩ := jb_kind T (evv_var (i := 0) (σ := [some v]) rfl) hj
  refine evs_ret (evd_tup (K := K) (ds := [.str j.t.name, .int j.r.num, .int j.r.arr, .int j.r.rel, .int j.r.work, .int j.ticks] ++ [match j.ended with | none => .none | some e => .int e]) (evds_cons (evd_str (tkE_name T hk ht)) (evds_cons (evd_int (jb_place T (evv_var rfl) hj)) (evds_cons (evd_int (jb_arrived T (evv_var rfl) hj)) (evds_cons (evd_int (jb_freed T (evv_var rfl) hj)) (evds_cons (evd_int (jb_load T (evv_var rfl) hj)) (evds_cons (evd_int (jb_ticks T (evv_var rfl) hj)) (evds_cons ?_ evds_nil))))))) (by simp))
  have h := jb_ended T (evv_var (i := 0) (σ := [some v]) rfl) hj
  cases hz : j.ended with
  | none => rw [hz] at h; exact evd_non h
  | some e => rw [hz] at h; exact evd_int h
end
end K7

set_option Elab.async false
set_option linter.all false
set_option maxRecDepth 100000
set_option maxHeartbeats 4000000
namespace K7
open PySem PySem.Spec PySem.W L2 Pw
open PyProof.Rows hiding St
open Evl (sq_of st_of)
variable [Tbs]
/-! ### the trace -/
structure St4 where
  a : Int
  b : Int
  n : Str
  k : Int
def st4D (q : St4) : PyData := .tuple [.int q.a, .int q.b, .str q.n, .int q.k]
def addF (tr : List St4) (s e : Int) (n : Str) (k : Int) : List St4 := match tr.getLast? with
  | some q => if PyData.eqv (.tuple [.int q.b, .str q.n, .int q.k]) (.tuple [.int s, .str n, .int k]) then tr.dropLast ++ [⟨q.a, e, n, k⟩] else tr ++ [⟨s, e, n, k⟩]
  | none => tr ++ [⟨s, e, n, k⟩]
theorem addF_len (tr : List St4) (s e : Int) (n : Str) (k : Int) : (addF tr s e n k).length ≤ tr.length + 1 := by
  unfold addF
  split
  · split
    · rw [List.length_append, List.length_dropLast]
      simp only [List.length_cons, List.length_nil]
      omega
    · simp
  · simp
def spAdded (K : PySem.W.Frag) (c : Cs) : Sp := fun vs H Q _ => ∃ (B : Hp) (t : Addr) (ys : List V) (tr : List St4) (s e : Int) (v : V) (j : Jb), vs = [.ref t, .int s, .int e, v] ∧ Ex B H ∧ B t = none ∧ H t = some (.lst ys) ∧ Items (DR K st4D) tr B ys ∧ JobAt K c H v j ∧ tr.length ≤ 100000 ∧ PyData.strOk j.t.name = true ∧ (∀ q ∈ tr, PyData.strOk q.n = true) ∧
  ∀ B' H' ys', Grow B (delA H t) B' H' → B' t = none → H' t = some (.lst ys') → Items (DR K st4D) (addF tr s e j.t.name j.r.num) B' ys' → Q .non H'
section
variable {P : Program} {w : World} {K : PySem.W.Frag} {mg : Str → Option Value} {base : Heap} {c : Cs} {f : Addr} {fd : FuncData}
theorem items_dps {enc : α → PyData} : ∀ {as : List α} {xs : List V} {B : Hp}, Items (DR K enc) as B xs → DpAll K B xs (as.map enc)
  | [], _, _, h => by cases h; exact .nil
  | a :: r, _, _, h => by
    cases h with
    | cons h1 h2 => exact .cons h1 (items_dps h2)
theorem shaped_st : ∀ (tr : List St4), (∀ q ∈ tr, PyData.strOk q.n = true) → SeqAt.shaped (.list (tr.map st4D)) = true := fun tr ok => by
  have h1 : ∀ tr : List St4, (∀ q ∈ tr, PyData.strOk q.n = true) → PyData.canLayAll0 (tr.map st4D) = true ∧ PyData.depthAll (tr.map st4D) ≤ 2 := fun tr => by
    induction tr with
    | nil => intro _; exact ⟨rfl, Nat.zero_le _⟩
    | cons a r ih =>
      intro ok
      obtain ⟨i1, i2⟩ := ih fun q hq => ok q (List.mem_cons_of_mem _ hq)
      have o := ok a List.mem_cons_self
      constructor
      · simp [PyData.canLayAll0, PyData.canLay0, st4D, o, i1]
      · simp only [List.map_cons, PyData.depthAll, st4D, PyData.depth]
        omega
  obtain ⟨a, b⟩ := h1 tr ok
  unfold SeqAt.shaped
  rw [Bool.and_eq_true]
  refine ⟨by simpa [PyData.canLay0] using a, decide_eq_true ?_⟩
  show PyData.depth _ ≤ 64
  simp only [PyData.depth]
  omega
theorem shaped_t3 {s k : Int} {n : Str} (o : PyData.strOk n = true) : SeqAt.shaped (.tuple [.int s, .str n, .int k]) = true := by
  unfold SeqAt.shaped
  rw [Bool.and_eq_true]
  exact ⟨by simp [PyData.canLay0, PyData.canLayAll0, o], by simp [PyData.depth, PyData.depthAll]⟩
abbrev s_added : Stmt := top 18
theorem sc_added : FnScope ["trace", "start", "stop", "job", "name", "place"] ["trace", "start", "stop", "job"] (defScope s_added) := ⟨rfl, rfl, rfl, by decide +kernel, rfl, by decide +kernel, by decide +kernel⟩
/- slots: 0=trace 1=start 2=stop 3=job 4=name 5=place -/
theorem ok_added (F : Fun K "added" "added" s_added f fd) (T : Txt K mg c) : FnOk P w K mg base CX0 1 f fd ["trace", "start", "stop", "job"] (spAdded K c) := by
  refine sp_ok F sc_added (fun vs H Q E ⟨B, t, ys, tr, s, e, v, j, h, _⟩ => by rw [h]; rfl) fun cdv A outer s0 H0 E hr => ?_
  refine ⟨_, (pss_cons (ps_par (by rfl) sc_added.nd (i := 4) (j := 5) rfl rfl (by decide) rfl rfl (pa_cons (pe_fld (pe_fld (pv 3) rfl) rfl) (pa_cons (pe_fld (pv 3) rfl) pa_nil)) (by rfl))
        (pss_one (ps_if (PW.pt (pw_and (pt_cmpR (op_neD hr.units) (pv 0) (pe_lst pa_nil) (nomark _)) (pw_and1 (pt_cmpR (op_eqD hr.units) (pe_slice sl_tup (pe_ix ix_list (pv 0) (pe_un un_neg pe_int) (fun _ _ => rfl)) (po_some pe_int) po_none) (pe_tup (pa_cons (pv 1) (pa_cons (pv 4) (pa_cons (pv 5) pa_nil)))) (nomark _))))) (pss_one (ps_asg (pe_tup (pa_cons (pe_ix ix_tup (pe_ix ix_list (pv 0) (pe_un un_neg pe_int) (fun _ _ => rfl)) pe_int (fun _ _ => rfl)) (pa_cons (pv 2) (pa_cons (pv 4) (pa_cons (pv 5) pa_nil))))) (pg_sub (pv 0) (pe_un un_neg pe_int) set_list))) (pss_one (ps_expr (pe_bm PySem.F.plainAttrs_list PySem.F.slot_list_append PySem.F.type_list_append mt_append (pv 0) (pa_cons (pe_tup (pa_cons (pv 1) (pa_cons (pv 2) (pa_cons (pv 4) (pa_cons (pv 5) pa_nil))))) pa_nil))))))), fun vs H Q E' ⟨B, t, ys, tr, s, e, v, j, hv, bh, nb, ht, it, hj, hl, ok, oks, k⟩ => ?_⟩
  subst hv
  have g0 : Grow B (delA H t) B H := ⟨.refl bh.l, bh, Ex.del bh.r ht po_lst, fun a o h => .inl h⟩
  have c0 : Cell (delA H t) B H t (.lst ys) := ⟨ht, nb, delA_same, po_lst⟩
  obtain ⟨tv, hk, htk⟩ := jb_kind T (evv_var (i := 3) (σ := [some (.ref t), some (.int s), some (.int e), some v, none, none]) rfl) hj
  -- name, place
  refine q_parH bh.r (evas_cons (tkE_name T hk htk) (evas_cons (jb_place T (evv_var (i := 3) rfl) hj) eva_nil)) fun H1 e1 => ?_
  have g2 := g0.ext e1
  have c2 := c0.ext e1
  have hd : EvD K (tVar 0) [some (.ref t), some (.int s), some (.int e), some v, some (.str j.t.name), some (.int j.r.num)] H1 (.list (tr.map st4D)) := evp_var rfl (.lst (sq_of c2.at_) (dps_up g2.bh (items_dps it)))
  have hr3 : EvD K (tTup (tCons (tVar 1) (tCons (tVar 4) (tCons (tVar 5) tNil)))) [some (.ref t), some (.int s), some (.int e), some v, some (.str j.t.name), some (.int j.r.num)] H1 (.tuple [.int s, .str j.t.name, .int j.r.num]) := evd_tup (evds_cons (evd_int (evv_var rfl)) (evds_cons (evd_str (evv_var rfl)) (evds_cons (evd_int (evv_var rfl)) evds_nil))) (by simp)
  have app : ∀ H3, Ex H1 H3 → addF tr s e j.t.name j.r.num = tr ++ [⟨s, e, j.t.name, j.r.num⟩] → tDrop (tBM K "list" rAppend (tVar 0) (tCons (tTup (tCons (tVar 1) (tCons (tVar 2) (tCons (tVar 4) (tCons (tVar 5) tNil))))) tNil)) { nx := fun _ H' => Q .non H', rt := Q } [some (.ref t), some (.int s), some (.int e), some v, some (.str j.t.name), some (.int j.r.num)] H3 := fun H3 e3 hf => by
    have g3 := g2.ext e3
    have c3 := c2.ext e3
    have ylen : ys.length = tr.length := Paired.length it
    refine s_app g3 c3 rfl (evd_tup (K := K) (ds := [.int s, .int e, .str j.t.name, .int j.r.num]) (evds_cons (evd_int (evv_var rfl)) (evds_cons (evd_int (evv_var rfl)) (evds_cons (evd_str (evv_var rfl)) (evds_cons (evd_int (evv_var rfl)) evds_nil)))) (by simp)) (by omega) fun w4 B4 H4 e4 _ g4 c4 d4 => ?_
    refine k B4 H4 _ g4 c4.nb c4.at_ ?_
    rw [hf]
    exact paired_app (Mono.up (P := Items (DR K st4D) tr) e4 it) (.cons d4 .nil)
  have sh : SeqAt.shaped (.list (tr.map st4D)) = true := shaped_st tr oks
  cases hz : tr.getLast? with
  | none =>
    have e0 : tr = [] := by simpa using hz
    have hb : EvT (tTest (tOp (rNeD K) (tVar 0) (tLst tNil))) [some (.ref t), some (.int s), some (.int e), some v, some (.str j.t.name), some (.int j.r.num)] H1 false := evt_eq (evt_test (evd_ne hd (evd_lst evds_nil) sh rfl)) (by rw [e0]; rfl)
    refine s_ifH (b := false) g2.bh.r (evt_and (c := true) hb fun z => by cases z) fun H3 e3 => ?_
    exact app H3 e3 (by unfold addF; rw [hz])
  | some q =>
    have ne0 : PyData.eqv (.list (tr.map st4D)) (.list []) = false := by
      cases tr with
      | nil => cases hz
      | cons _ _ => rfl
    have hb : EvT (tTest (tOp (rNeD K) (tVar 0) (tLst tNil))) [some (.ref t), some (.int s), some (.int e), some v, some (.str j.t.name), some (.int j.r.num)] H1 true := evt_eq (evt_test (evd_ne hd (evd_lst evds_nil) sh rfl)) (by rw [ne0]; rfl)
    have hl4 : (tr.map st4D).getLast? = some (st4D q) := by rw [List.getLast?_map, hz]; rfl
    refine s_ifH g2.bh.r (evt_and hb fun _ => evt_test (evd_eq (evd_drop1 (evd_last hd hl4)) hr3 (shaped_t3 (oks q (List.mem_of_getLast? hz))) (shaped_t3 ok))) fun H3 e3 => ?_
    rw [Bool.true_and]
    have g3 := g2.ext e3
    have c3 := c2.ext e3
    cases hq : PyData.eqv (.tuple [.int q.b, .str q.n, .int q.k]) (.tuple [.int s, .str j.t.name, .int j.r.num]) with
    | false => exact app H3 e3 (by unfold addF; rw [hz]; show (if PyData.eqv _ _ = true then _ else _) = _; rw [hq]; rfl)
    | true =>
      have hf : addF tr s e j.t.name j.r.num = tr.dropLast ++ [⟨q.a, e, j.t.name, j.r.num⟩] := by
        unfold addF; rw [hz]; show (if PyData.eqv _ _ = true then _ else _) = _; rw [hq]; rfl
      have ne : tr ≠ [] := fun z => by rw [z] at hz; cases hz
      have pos : 0 < tr.length := List.length_pos_iff.mpr ne
      have ylen : ys.length = tr.length := Paired.length it
      -- trace[-1] = (trace[-1][0], stop, name, place)
      have hd3 : EvD K (tVar 0) [some (.ref t), some (.int s), some (.int e), some v, some (.str j.t.name), some (.int j.r.num)] H3 (.list (tr.map st4D)) := evp_var rfl (.lst (sq_of c3.at_) (dps_up g3.bh (items_dps it)))
      have h0 : EvV (tOp (rIxT K) (tOp (rIxL K) (tVar 0) (tUn (rU fun i => .int (-i)) (tC (.int 1)))) (tC (.int 0))) [some (.ref t), some (.int s), some (.int e), some v, some (.str j.t.name), some (.int j.r.num)] H3 (.int q.a) :=
        EvP.imp (evd_ixT (n := 0) (evd_last hd3 hl4) evv_c rfl) fun _ _ _ h => by cases h; rfl
      refine iteT ?_
      refine s_tupH g3 (evas_cons h0 (evas_cons (evv_var (i := 2) rfl) (evas_cons (evv_var (i := 4) rfl) (evas_cons (evv_var (i := 5) rfl) eva_nil)))) (by simp) fun p H4 g4 e4 keep4 => ?_
      have c4 := keep4 _ _ c3
      refine ⟨_, rfl, 1, rfl, t, ys, -1, ys.length - 1, rfl, rfl, c4.at_, ixN_last (by omega), ?_⟩
      refine k _ _ (ys.set (ys.length - 1) (.ref p)) (g4.mut c4) c4.nb upd_same ?_
      have es : ys.set (ys.length - 1) (.ref p) = ys.take (ys.length - 1) ++ [.ref p] := by
        rw [List.set_eq_take_append_cons_drop, if_pos (by omega), show ys.length - 1 + 1 = ys.length by omega, List.drop_length]
      rw [hf, es, List.dropLast_eq_take, ylen]
      exact paired_app (Mono.up (P := Items (DR K st4D) _) e4 (items_take _ it)) (.cons (.tup (st_of upd_same) (.cons (.int _) (.cons (.int _) (.cons (.str _) (.cons (.int _) .nil))))) .nil)
end
end K7

set_option Elab.async false
set_option linter.all false
set_option maxRecDepth 100000
set_option maxHeartbeats 4000000
namespace K7
open PySem PySem.Spec PySem.W L2 Pw
open PyProof.Rows hiding St
open Evl (sq_of st_of)
variable [Tbs]
/-! ### jobs made -/
def R_Job (K : PySem.W.Frag) (c : Cs) : Hp → List V → (Hp → List (Str × V) → Prop) → Prop := fun B us P => ∃ (tv cv rv : V) (t : TaskD) (r : JR), us = [tv, cv, rv] ∧ TaskAt K c B tv t ∧ t.secs = [] ∧ DR K jrD B rv r ∧ P = JobIs K c ⟨t, r, 0, none⟩
section
variable {P : Program} {w : World} {K : PySem.W.Frag} {mg : Str → Option Value} {base : Heap} {c : Cs} {f : Addr} {fd : FuncData}
abbrev s_Job_init : Stmt := inClass (top 15) 0
theorem sc_Job_init : FnScope ["self", "task", "ceilings", "row", "name", "number", "hour", "arrival", "release", "work", "start", "length", "lock"] ["self", "task", "ceilings", "row"] (defScope s_Job_init) := ⟨rfl, rfl, rfl, by decide +kernel, rfl, by decide +kernel, by decide +kernel⟩
/- slots: 0=self 1=task 2=ceilings 3=row 4=name 5=number 6=hour 7=arrival 8=release 9=work 10=start 11=length 12=lock -/
theorem ok_Job_init (F : Fun K "__init__" "Job.__init__" s_Job_init f fd) (T : Txt K mg c) : FnOk P w K mg base CX0 1 f fd ["self", "task", "ceilings", "row"] (CtorC c.Job (R_Job K c)) := by
  refine sp_ok F sc_Job_init (fun vs H Q E ⟨x, dx, us, B, P', h, _, _, _, ⟨tv, cv, rv, t, r, h2, _⟩, _⟩ => by rw [h, h2]; rfl) fun cdv A outer s H0 E hr => ?_
  refine ⟨_, (pss_cons (ps_asg (pv 3) (pg_tup (by rfl) (pgs_cons (pg_name (i := 4) sc_Job_init.nd rfl (by first | exact Or.inl rfl | exact Or.inr rfl)) (pgs_cons (pg_name (i := 5) sc_Job_init.nd rfl (by first | exact Or.inl rfl | exact Or.inr rfl)) (pgs_cons (pg_name (i := 6) sc_Job_init.nd rfl (by first | exact Or.inl rfl | exact Or.inr rfl)) (pgs_cons (pg_name (i := 7) sc_Job_init.nd rfl (by first | exact Or.inl rfl | exact Or.inr rfl)) (pgs_cons (pg_name (i := 8) sc_Job_init.nd rfl (by first | exact Or.inl rfl | exact Or.inr rfl)) (pgs_cons (pg_name (i := 9) sc_Job_init.nd rfl (by first | exact Or.inl rfl | exact Or.inr rfl)) pgs_nil))))))))
        (pss_cons (ps_fld (pv 0) (pv 1) rfl)
        (pss_cons (ps_fld (pv 0) (pv 5) rfl)
        (pss_cons (ps_fld (pv 0) (pv 6) rfl)
        (pss_cons (ps_fld (pv 0) (pv 7) rfl)
        (pss_cons (ps_fld (pv 0) (pv 8) rfl)
        (pss_cons (ps_fld (pv 0) (pv 9) rfl)
        (pss_cons (ps_fld (pv 0) pe_int rfl)
        (pss_cons (ps_fld (pv 0) pe_non rfl)
        (pss_one (ps_fld (pv 0) (pe_lc (own := [("start", 10), ("length", 11), ("lock", 12)]) rfl sc_Job_init.nd (pi_tup (pe_fld (pv 1) rfl)) (blkOk_by (N := ["self", "task", "ceilings", "row", "name", "number", "hour", "arrival", "release", "work", "start", "length", "lock"]) (sc := defScope s_Job_init) (by decide +kernel)) (fun _ _ _ _ _ => (pg_tupK (K := K) (n := 3) rfl (by rfl) (pgs_cons (pg_name (i := 10) sc_Job_init.nd rfl (by first | exact Or.inl rfl | exact Or.inr rfl)) (pgs_cons (pg_name (i := 11) sc_Job_init.nd rfl (by first | exact Or.inl rfl | exact Or.inr rfl)) (pgs_cons (pg_name (i := 12) sc_Job_init.nd rfl (by first | exact Or.inl rfl | exact Or.inr rfl)) pgs_nil))))) (fun _ _ _ _ _ => pts_nil) (fun _ _ _ _ _ => (pe_tup (pa_cons (pv 10) (pa_cons (pe_op op_add (pv 10) (pv 11)) (pa_cons (pe_ix (ix_seqK (K := K) rfl) (pv 2) (pv 12) (fun _ _ => rfl)) (pa_cons (pv 12) pa_nil))))))) rfl))))))))))), fun vs H Q E' ⟨x, dx, us, B, P', hv, bh, hx, nb, ⟨tv, cv, rv, t, r, h2, ht, hs, hrv, hP⟩, k⟩ => ?_⟩
  subst hv h2 hP
  obtain ⟨g0, c0⟩ := ctor_start bh hx nb
  obtain ⟨px, rfl, sx⟩ := dp_tup (jrV r) hrv
  refine ⟨_, rfl, ?_⟩
  refine evg_tup (B := B) sx rfl (evgs_cons evg_name (evgs_cons evg_name (evgs_cons evg_name (evgs_cons evg_name (evgs_cons evg_name (evgs_cons evg_name evgs_nil)))))) H bh _ ?_
  refine q_fld g0 c0 rfl T.c_Job T.n_Job_kind (by show 0 < 1000; decide) (evv_var (i := 1) rfl) fun w1 B1 H1 e1 g1 c1 p1 => ?_
  cases p1
  refine q_fld g1 c1 rfl T.c_Job T.n_Job_place (by show 1 < 1000; decide) (evv_var (i := 5) rfl) fun w2 B2 H2 e2 g2 c2 p2 => ?_
  cases p2
  refine q_fld g2 c2 rfl T.c_Job T.n_Job_came (by show 2 < 1000; decide) (evv_var (i := 6) rfl) fun w3 B3 H3 e3 g3 c3 p3 => ?_
  cases p3
  refine q_fld g3 c3 rfl T.c_Job T.n_Job_arrived (by show 3 < 1000; decide) (evv_var (i := 7) rfl) fun w4 B4 H4 e4 g4 c4 p4 => ?_
  cases p4
  refine q_fld g4 c4 rfl T.c_Job T.n_Job_freed (by show 4 < 1000; decide) (evv_var (i := 8) rfl) fun w5 B5 H5 e5 g5 c5 p5 => ?_
  cases p5
  refine q_fld g5 c5 rfl T.c_Job T.n_Job_load (by show 5 < 1000; decide) (evv_var (i := 9) rfl) fun w6 B6 H6 e6 g6 c6 p6 => ?_
  cases p6
  refine q_fld g6 c6 rfl T.c_Job T.n_Job_ticks (by show 6 < 1000; decide) (evv_c (v := .int 0)) fun w7 B7 H7 e7 g7 c7 p7 => ?_
  cases p7
  refine q_fld g7 c7 rfl T.c_Job T.n_Job_ended (by show 7 < 1000; decide) (evv_c (v := .non)) fun w8 B8 H8 e8 g8 c8 p8 => ?_
  cases p8
  have e18 : Ex B B8 := ((((((e1.trans e2).trans e3).trans e4).trans e5).trans e6).trans e7).trans e8
  have ht8 : TaskAt K c B8 tv t := MonoR.up e18 ht
  refine s_fld (D := { nx := fun _ H' => Q .non H', rt := Q }) (Pv := LsOf K (VR V.int) ([] : List Int)) g8 c8 rfl T.c_Job T.n_Job_barriers (by show 8 < 1000; decide) (evp_lcA (K := K) (R := DR K secD) (S := VR V.int) (as := []) (fun _ : Sec => (0 : Int)) (evi_tup (EvP.imp (tk_secs T rfl ht8) fun _ _ _ h => by rw [hs] at h; exact h)) (by simp) fun B' x a e ha hx => nomatch ha) fun v9 B9 H9 _ gg c9 g9' p9 => ?_
  exact k _ _ g9' ⟨_, c9, tv, v9, rfl, MonoR.up (e18.trans gg.b) ht, p9⟩
abbrev TaskAt' (K : PySem.W.Frag) (c : Cs) (t : TaskD) : Hp → V → Prop := fun B v => TaskAt K c B v t
instance {K : PySem.W.Frag} {c : Cs} {t : TaskD} : Mono (TaskAt' K c t) := ⟨fun e h => MonoR.up e h⟩
/-- a job of mine -/
def JobC (K : PySem.W.Frag) (c : Cs) : CR Jb := fun H0 B H p j => ∃ dx fs, Cell H0 B H p (.ins c.Job dx fs) ∧ JobIs K c j B fs
instance : CellR (JobC K c) where
  cell := fun ⟨_, _, h, _⟩ => ⟨_, h⟩
  grow := fun ⟨dx, fs, h, j⟩ g => ⟨dx, fs, h.grow g, j.up g.b⟩
  other := fun ⟨dx, fs, h, j⟩ n => ⟨dx, fs, h.other n.symm, j⟩
  freeze := fun ⟨dx, fs, h, j⟩ n e => ⟨dx, fs, h.freeze n.symm, j.up e⟩
  down := fun ⟨dx, fs, h, j⟩ e => ⟨dx, fs, ⟨h.at_, h.nb, ex_none e h.n0, h.po⟩, j⟩
  ext := fun ⟨dx, fs, h, j⟩ e => ⟨dx, fs, h.ext e, j⟩
  via := fun ⟨dx, fs, h, j⟩ n g => ⟨dx, fs, h.via n g, j.up g.b⟩
/-- mine, seen from the heap as it is -/
theorem JobC.job {H0 B H : Hp} {p : Addr} {j : Jb} (h : JobC K c H0 B H p j) (e : Ex B H) : JobAt K c H (.ref p) j := let ⟨dx, fs, h1, h2⟩ := h; ⟨p, dx, fs, rfl, h1.at_, h2.up e⟩
theorem cells_jobs {H0 B H : Hp} {ps : List Addr} {js : List Jb} (h : Cells (JobC K c) H0 B H ps js) (e : Ex B H) : Items (JobAt K c) js H (ps.map V.ref) := by
  have g : ∀ {ps : List Addr} {js : List Jb}, Paired (fun p j => JobC K c H0 B H p j) ps js → Items (JobAt K c) js H (ps.map V.ref) := fun {ps js} h => by
    induction h with
    | nil => exact .nil
    | cons a _ ih => exact .cons (JobC.job a e) ih
  exact g h.at_
def R_jobsIn (K : PySem.W.Frag) (c : Cs) (ts : List TaskD) (rows : List JR) : Hp → V → V → Prop := fun B v u => PlanAt K c B v ts ∧ LsOf K (DR K jrD) rows B u
/-- the job of a row: its task found by name -/
def jobOf (ts : List TaskD) (r : JR) : Jb := ⟨(ts.find? fun t => decide (t.name = r.name)).getD ⟨r.name, 0, 0, 0, 0, 0, []⟩, r, 0, none⟩
def spJobsIn (K : PySem.W.Frag) (c : Cs) : Sp := fun vs H Q _ => ∃ (B : Hp) (v u : V) (ts : List TaskD) (rows : List JR), vs = [v, u] ∧ Ex B H ∧ PlanAt K c B v ts ∧ (∀ t ∈ ts, t.secs = []) ∧ LsOf K (DR K jrD) rows B u ∧ rows.length ≤ 100000 ∧ (∀ r ∈ rows, ∃ t ∈ ts, t.name = r.name) ∧
  ∀ l ps B' H', Grow B H B' H' → B' l = some (.lst (ps.map V.ref)) → Cells (JobC K c) H B' H' ps (rows.map (jobOf ts)) → Q (.ref l) H'
theorem jobOf_t {ts : List TaskD} {r : JR} (h : ∃ t ∈ ts, t.name = r.name) : (jobOf ts r).t ∈ ts ∧ (jobOf ts r).t.name = r.name := by
  obtain ⟨t, ht, hn⟩ := h
  unfold jobOf
  cases hz : ts.find? fun t => decide (t.name = r.name) with
  | none =>
    have := List.find?_eq_none.mp hz t ht
    simp [hn] at this
  | some u =>
    have hn2 := List.find?_some hz
    exact ⟨List.mem_of_find?_eq_some hz, of_decide_eq_true hn2⟩
theorem ev_planM {σ : L2.St} {B : Hp} {te : TE} {tr : TA} {v : V} {ts : List TaskD} {E : XK} {m : Str} {R : Hp → List V → (Hp → V → Prop) → Prop} {us : List V} {Pv : Hp → V → Prop} (h : EvV te σ B v) (hp : PlanAt K c B v ts) (hm : (planF 0 0 0).lookup m = none) (ha : EvA tr σ B (Iss us)) (k : ∀ B', Ex B B' → R B' (v :: us) Pv) : EvP (tMeth c.Plan m (Pure R) [] E te tr) σ B Pv := by
  obtain ⟨a, dx, fs, rfl, ha1, bn, br, ce, kvs, rfl, h1, h2, h3, h4⟩ := id hp
  have hm' : (planF bn br ce).lookup m = none := by
    unfold planF at hm ⊢
    simp only [List.lookup] at hm ⊢
    revert hm
    repeat' split
    all_goals first | (intro h; cases h; done) | exact fun h => h
  refine evp_meth h ha1 hm' ha fun B' vs e hvs => ?_
  cases hvs
  rw [List.append_nil]
  exact k B' e
abbrev s_jobs_in : Stmt := top 16
theorem sc_jobs_in : FnScope ["plan", "rows", "ceilings", "lock", "row"] ["plan", "rows"] (defScope s_jobs_in) := ⟨rfl, rfl, rfl, by decide +kernel, rfl, by decide +kernel, by decide +kernel⟩
/- slots: 0=plan 1=rows 2=ceilings 3=lock 4=row -/
theorem ok_jobs_in (F : Fun K "jobs_in" "jobs_in" s_jobs_in f fd) (T : Txt K mg c) (G_Plan_locks : Gm P w K mg base 1 c.Plan "locks" ["self"] [] (Pure (R_planLocks K c))) (G_Plan_task : Gm P w K mg base 1 c.Plan "task" ["self", "name"] [] (Pure (R_planTask K c)))
    (G_Job : Gc P w K mg base 1 "Job" c.Job ["self", "task", "ceilings", "row"] [] (CtorC c.Job (R_Job K c))) : FnOk P w K mg base CX0 3 f fd ["plan", "rows"] (spJobsIn K c) := by
  refine sp_ok F sc_jobs_in (fun vs H Q E ⟨B, v, u, ts, rows, h, _⟩ => by rw [h]; rfl) fun cdv A outer s0 H0 E hr => ?_
  refine ⟨_, (pss_cons (ps_set (i := 2) sc_jobs_in.nd rfl (by first | exact Or.inl rfl | exact Or.inr rfl) (pe_dc (own := [("lock", 3)]) rfl sc_jobs_in.nd (pi_list (pe_gm0 (pv 0) T.c_Plan G_Plan_locks (hr.mono (by decide)))) (blkOk_by (N := ["plan", "rows", "ceilings", "lock", "row"]) (sc := defScope s_jobs_in) (by decide +kernel)) (fun _ _ _ _ _ => (pg_name (i := 3) sc_jobs_in.nd rfl (by first | exact Or.inl rfl | exact Or.inr rfl))) (fun _ _ _ _ _ => pts_nil) (fun _ _ _ _ _ => (pv 3)) (fun _ _ _ _ _ => pe_never)))
        (pss_one (ps_ret (pe_lc (own := [("row", 4)]) rfl sc_jobs_in.nd (pi_list (pv 1)) (blkOk_by (N := ["plan", "rows", "ceilings", "lock", "row"]) (sc := defScope s_jobs_in) (by decide +kernel)) (fun _ _ _ _ _ => (pg_name (i := 4) sc_jobs_in.nd rfl (by first | exact Or.inl rfl | exact Or.inr rfl))) (fun _ _ _ _ _ => pts_nil) (fun _ _ _ _ _ => (pe_gc G_Job (hr.mono (by decide)) (by rfl) (pa_cons (pe_gm (pv 0) T.c_Plan G_Plan_task (hr.mono (by decide)) (pa_cons (pe_ix (ix_tupK (K := K) rfl) (pv 4) pe_int (fun _ _ => rfl)) pa_nil)) (pa_cons (pv 2) (pa_cons (pv 4) pa_nil))))))))), fun vs H Q E' ⟨B, v, u, ts, rows, hv, bh, hp, hsec, hrows, hl, hall, k⟩ => ?_⟩
  subst hv
  haveI : Mono (fun (B' : Hp) w => ∃ d, w = V.ref d ∧ B' d = some (.dK [])) := ⟨fun e ⟨d, h1, h2⟩ => ⟨d, h1, e _ _ h2⟩⟩
  refine q_asg (Grow.refl bh) (Pv := fun B' w => ∃ d, w = V.ref d ∧ B' d = some (.dK [])) (evp_dc0 (R := VR V.str) (evi_list (ev_planM (evv_var rfl) hp rfl eva_nil fun B' e => ⟨v, ts, rfl, MonoR.up (R := PlanAt K c) e hp, rfl⟩))) fun cv B1 H1 g1 _ hc => ?_
  refine s_lcC (R := DR K jrD) (jobOf ts) (evi_list (evp_var rfl (Mono.up (P := LsOf K (DR K jrD) rows) g1.b hrows))) g1.bh (by omega) (fun B' H' x r e1 e2 hr2 hx => ?_) fun l ps B2 H2 g2 hl2 cs => k l ps B2 H2 (g1.trans g2) hl2 (cs.down g1.h)
  obtain ⟨ht, hn⟩ := jobOf_t (hall r hr2)
  have hp' : PlanAt K c B' v ts := MonoR.up (R := PlanAt K c) (g1.b.trans e1) hp
  refine ⟨_, evg_name, rfl, fun Q' k' => s_makeC (A := ConsP (TaskAt' K c (jobOf ts r).t) (ConsP (fun B'' w => w = cv) (ConsP (fun B'' w => DR K jrD B'' w r) (Iss [])))) (P := JobIs K c (jobOf ts r)) e2 (eva_cons (P := TaskAt' K c (jobOf ts r).t) (ev_planM (us := [.str r.name]) (evv_var rfl) hp' rfl (evas_cons ?_ eva_nil) fun B'' e => ⟨v, ts, (jobOf ts r).t, by rw [hn], MonoR.up (R := PlanAt K c) e hp', ht, rfl⟩) fun B'' e => eva_cons (evv_var rfl) fun B3 e3 => eva_cons (evp_var rfl ?_) fun B4 e4 => eva_nil) (fun B'' vs e ⟨tv, vs1, h1, h2, ⟨cv', vs2, h3, h4, ⟨rv, vs3, h5, h6, h7⟩⟩⟩ => ?_) fun q dx fs B2 H2 g2 n2 c2 j2 => k' q B2 H2 g2 n2 ⟨dx, fs, c2, j2⟩⟩
  · exact EvP.imp (evd_ixT (n := 0) (evp_var (P := fun B w => Dp K B w (jrD r)) rfl hx) evv_c rfl) fun _ _ _ h => by cases h; rfl
  · exact MonoR.up (R := DR K jrD) (e.trans e3) hx
  · cases h7
    subst h1 h3 h5
    exact ⟨tv, cv', rv, (jobOf ts r).t, r, rfl, h2, hsec _ ht, h6, rfl⟩
end
end K7

set_option Elab.async false
set_option linter.all false
set_option maxRecDepth 100000
set_option maxHeartbeats 4000000
namespace K7
open PySem PySem.Spec PySem.W L2 Pw
open PyProof.Rows hiding St
open Evl (sq_of st_of)
variable [Tbs]
/-! ### the machine, as a function -/
structure Ws where
  js : List Jb
  tr : List St4
  hour : Int
def isReady (h : Int) (j : Jb) : Bool := decide (j.r.rel ≤ h) && decide (j.ended = none)
/-- the places of those that are ready -/
def readyAt (js : List Jb) (h : Int) : List Nat := (List.range js.length).filter fun i => match js[i]? with | some j => isReady h j | none => false
def noJob : Jb := ⟨⟨"", 0, 0, 0, 0, 0, []⟩, ⟨"", 0, 0, 0, 0, 0⟩, 0, none⟩
def pick (js : List Jb) (h : Int) : Nat := (readyAt js h).getD (argBest (keyBt ((readyAt js h).map fun i => urgD (js.getD i noJob))) ((readyAt js h).length - 1)) 0
def stopOf (g : Bool) (til : Int) (h : Int) (later : Option Int) (j : Jb) : Int := match later with
  | none => min til (h + goalOf g j - j.ticks)
  | some l => min (min til (h + goalOf g j - j.ticks)) l
def doneJ (g : Bool) (h s : Int) (j : Jb) : Jb := if j.ticks + (s - h) = goalOf g j then { j with ticks := j.ticks + (s - h), ended := some s } else { j with ticks := j.ticks + (s - h) }
def stepW (g : Bool) (til : Int) (w : Ws) : Ws :=
  if readyAt w.js w.hour = [] then { w with hour := (nextRel w.js w.hour).getD til } else
  let i := pick w.js w.hour
  let j := w.js.getD i noJob
  let s := stopOf g til w.hour (nextRel w.js w.hour) j
  ⟨w.js.set i (doneJ g w.hour s j), addF w.tr w.hour s j.t.name j.r.num, s⟩
inductive Steps (g : Bool) (til : Int) : Ws → Ws → Prop
  | refl (w : Ws) : Steps g til w w
  | step {u v : Ws} : Steps g til u v → v.hour < til → Steps g til u (stepW g til v)
/-- what stays so -/
structure GoodW (g : Bool) (js : List Jb) : Prop where
  lt : ∀ j ∈ js, j.ended = none → j.ticks < goalOf g j
  ok : ∀ j ∈ js, PyData.strOk j.t.name = true
def notYet (js : List Jb) (h : Int) : Nat := (js.filter fun j => decide (j.r.rel > h)).length
def going (js : List Jb) : Nat := (js.filter fun j => decide (j.ended = none)).length
def muW (til : Int) (w : Ws) : Nat := notYet w.js w.hour + going w.js + (if w.hour < til then 1 else 0)
theorem minO_mem {ns : List Int} {m : Int} (h : minO ns = some m) : m ∈ ns := by
  cases ns with
  | nil => cases h
  | cons n r =>
    cases h
    rcases (foldl_min_le r n).2.2 with z | z
    · rw [z]; exact List.mem_cons_self
    · exact List.mem_cons_of_mem _ z
theorem nextRel_some {js : List Jb} {h m : Int} (e : nextRel js h = some m) : h < m ∧ ∃ j ∈ js, j.r.rel = m := by
  have := minO_mem e
  obtain ⟨j, hj, e2⟩ := List.mem_map.mp this
  obtain ⟨h1, h2⟩ := List.mem_filter.mp hj
  have h3 := of_decide_eq_true h2
  exact ⟨by omega, j, h1, e2⟩
theorem notYet_le {js : List Jb} {h h' : Int} (e : h ≤ h') : notYet js h' ≤ notYet js h := by
  unfold notYet
  induction js with
  | nil => exact Nat.le_refl _
  | cons a r ih =>
    rw [List.filter_cons, List.filter_cons]
    by_cases z : a.r.rel > h'
    · rw [if_pos (decide_eq_true z), if_pos (decide_eq_true (by omega))]
      simp only [List.length_cons]
      omega
    · rw [if_neg (by simpa using z)]
      split
      · simp only [List.length_cons]; omega
      · exact ih
theorem notYet_lt {js : List Jb} {h m : Int} (hm : h < m) (ex : ∃ j ∈ js, j.r.rel = m) : notYet js m < notYet js h := by
  unfold notYet
  induction js with
  | nil => obtain ⟨j, hj, _⟩ := ex; cases hj
  | cons a r ih =>
    rw [List.filter_cons, List.filter_cons]
    by_cases e : a.r.rel = m
    · rw [if_neg (by simp [e]), if_pos (decide_eq_true (by omega))]
      have := notYet_le (js := r) (h := h) (h' := m) (by omega)
      unfold notYet at this
      simp only [List.length_cons]
      omega
    · obtain ⟨j, hj, e2⟩ := ex
      rcases List.mem_cons.mp hj with z | z
      · exact absurd (z ▸ e2) e
      · have i := ih ⟨j, z, e2⟩
        by_cases z1 : a.r.rel > m
        · rw [if_pos (decide_eq_true z1), if_pos (decide_eq_true (by omega))]
          simp only [List.length_cons]; omega
        · rw [if_neg (by simpa using z1)]
          split
          · simp only [List.length_cons]; omega
          · exact i
theorem readyAt_mem {js : List Jb} {h : Int} {i : Nat} (hi : i ∈ readyAt js h) : ∃ j, js[i]? = some j ∧ isReady h j = true := by
  obtain ⟨h1, h2⟩ := List.mem_filter.mp hi
  cases e : js[i]? with
  | none => rw [e] at h2; cases h2
  | some j => rw [e] at h2; exact ⟨j, rfl, h2⟩
theorem argBest_le (bt : Nat → Nat → Bool) : ∀ k, argBest bt k ≤ k
  | 0 => Nat.le_refl _
  | k + 1 => by
    show (if bt (k + 1) (argBest bt k) then k + 1 else argBest bt k) ≤ _
    split
    · exact Nat.le_refl _
    · exact Nat.le_succ_of_le (argBest_le bt k)
theorem pick_mem {js : List Jb} {h : Int} (ne : readyAt js h ≠ []) : pick js h ∈ readyAt js h := by
  unfold pick
  have pos := List.length_pos_iff.mpr ne
  have lt : argBest (keyBt ((readyAt js h).map fun i => urgD (js.getD i noJob))) ((readyAt js h).length - 1) < (readyAt js h).length := by
    have := argBest_le (keyBt ((readyAt js h).map fun i => urgD (js.getD i noJob))) ((readyAt js h).length - 1)
    omega
  rw [List.getD_eq_getElem?_getD, List.getElem?_eq_getElem lt]
  exact List.getElem_mem lt
theorem going_set {js : List Jb} {i : Nat} {j j' : Jb} (hi : js[i]? = some j) (h : j.ended = none) : (j'.ended = none → going (js.set i j') = going js) ∧ (j'.ended ≠ none → going (js.set i j') + 1 = going js) := by
  unfold going
  induction js generalizing i with
  | nil => cases hi
  | cons a r ih =>
    cases i with
    | zero =>
      cases hi
      show (_ → ((j' :: r).filter _).length = _) ∧ (_ → ((j' :: r).filter _).length + 1 = _)
      rw [List.filter_cons, List.filter_cons, if_pos (decide_eq_true h)]
      constructor
      · intro e; rw [if_pos (decide_eq_true e)]; rfl
      · intro e; rw [if_neg (by simpa using e)]; rfl
    | succ i =>
      obtain ⟨i1, i2⟩ := ih (i := i) hi
      show (_ → ((a :: r.set i j').filter _).length = _) ∧ (_ → ((a :: r.set i j').filter _).length + 1 = _)
      rw [List.filter_cons, List.filter_cons]
      constructor
      · intro e
        have := i1 e
        split <;> (try simp only [List.length_cons]) <;> omega
      · intro e
        have := i2 e
        split <;> (try simp only [List.length_cons]) <;> omega
theorem notYet_set {js : List Jb} {i : Nat} {j j' : Jb} {h : Int} (hi : js[i]? = some j) (e : j'.r = j.r) : notYet (js.set i j') h = notYet js h := by
  unfold notYet
  induction js generalizing i with
  | nil => cases hi
  | cons a r ih =>
    cases i with
    | zero =>
      cases hi
      show ((j' :: r).filter _).length = _
      rw [List.filter_cons, List.filter_cons, e]
      split <;> rfl
    | succ i =>
      have := ih (i := i) hi
      show ((a :: r.set i j').filter _).length = _
      rw [List.filter_cons, List.filter_cons]
      split <;> (try simp only [List.length_cons]) <;> omega
/-- a turn: less is left, all stays well -/
theorem step_good {g : Bool} {til : Int} {w : Ws} (G : GoodW g w.js) (h : w.hour < til) : muW til (stepW g til w) < muW til w ∧ GoodW g (stepW g til w).js ∧ (stepW g til w).js.length = w.js.length ∧ (stepW g til w).tr.length ≤ w.tr.length + 1 ∧ (∀ q ∈ (stepW g til w).tr, q ∈ w.tr ∨ ∃ j ∈ w.js, q.n = j.t.name) := by
  unfold stepW
  by_cases ne : readyAt w.js w.hour = []
  · rw [if_pos ne]
    refine ⟨?_, G, rfl, Nat.le_succ _, fun q hq => .inl hq⟩
    unfold muW
    show notYet w.js ((nextRel w.js w.hour).getD til) + going w.js + _ < _
    cases e : nextRel w.js w.hour with
    | none =>
      show notYet w.js til + going w.js + (if til < til then 1 else 0) < _
      rw [if_neg (Int.lt_irrefl _), if_pos h]
      have := notYet_le (js := w.js) (h := w.hour) (h' := til) (by omega)
      omega
    | some m =>
      obtain ⟨h1, h2⟩ := nextRel_some e
      have := notYet_lt h1 h2
      show notYet w.js m + going w.js + (if m < til then 1 else 0) < _
      rw [if_pos h]
      split <;> omega
  · rw [if_neg ne]
    obtain ⟨j, hj, hr⟩ := readyAt_mem (pick_mem ne)
    have ej : w.js.getD (pick w.js w.hour) noJob = j := by rw [List.getD_eq_getElem?_getD, hj]; rfl
    have hm : j ∈ w.js := List.mem_of_getElem? hj
    unfold isReady at hr
    obtain ⟨r1, r2⟩ := Bool.and_eq_true_iff.mp hr
    have he := of_decide_eq_true r2
    have lt := G.lt j hm he
    have rel := of_decide_eq_true r1
    dsimp only
    rw [ej]
    -- the stop
    have s1 : w.hour < stopOf g til w.hour (nextRel w.js w.hour) j ∧ stopOf g til w.hour (nextRel w.js w.hour) j ≤ til ∧ stopOf g til w.hour (nextRel w.js w.hour) j ≤ w.hour + goalOf g j - j.ticks ∧
        (stopOf g til w.hour (nextRel w.js w.hour) j = til ∨ stopOf g til w.hour (nextRel w.js w.hour) j = w.hour + goalOf g j - j.ticks ∨ nextRel w.js w.hour = some (stopOf g til w.hour (nextRel w.js w.hour) j)) := by
      unfold stopOf
      cases e : nextRel w.js w.hour with
      | none => dsimp only; omega
      | some m =>
        obtain ⟨h1, _⟩ := nextRel_some e
        dsimp only
        rw [Option.some.injEq]
        omega
    generalize hs : stopOf g til w.hour (nextRel w.js w.hour) j = s at s1
    obtain ⟨a1, a2, a3, a4⟩ := s1
    have dr : (doneJ g w.hour s j).r = j.r := by unfold doneJ; split <;> rfl
    have dt : (doneJ g w.hour s j).t = j.t := by unfold doneJ; split <;> rfl
    obtain ⟨g1, g2⟩ := going_set (j' := doneJ g w.hour s j) hj he
    refine ⟨?_, ⟨fun k hk hn => ?_, fun k hk => ?_⟩, by rw [List.length_set], addF_len _ _ _ _ _, fun q hq => ?_⟩
    · unfold muW
      dsimp only
      rw [notYet_set hj dr, if_pos h]
      have n1 := notYet_le (js := w.js) (h := w.hour) (h' := s) (by omega)
      by_cases en : j.ticks + (s - w.hour) = goalOf g j
      · have d1 : (doneJ g w.hour s j).ended ≠ none := by unfold doneJ; rw [if_pos en]; simp
        have := g2 d1
        split <;> omega
      · have d1 : (doneJ g w.hour s j).ended = none := by unfold doneJ; rw [if_neg en]; exact he
        have := g1 d1
        rcases a4 with z | z | z
        · rw [if_neg (by omega)]; omega
        · omega
        · obtain ⟨b1, b2⟩ := nextRel_some z
          have := notYet_lt b1 b2
          split <;> omega
    · rcases List.mem_or_eq_of_mem_set hk with z | z
      · exact G.lt k z hn
      · subst z
        unfold doneJ at hn ⊢
        split at hn
        · cases hn
        · rename_i en
          rw [if_neg en]
          show j.ticks + (s - w.hour) < goalOf g j
          omega
    · rcases List.mem_or_eq_of_mem_set hk with z | z
      · exact G.ok k z
      · subst z; rw [dt]; exact G.ok j hm
    · unfold addF at hq
      have key : q ∈ w.tr ++ [⟨w.hour, s, j.t.name, j.r.num⟩] → q ∈ w.tr ∨ ∃ j ∈ w.js, q.n = j.t.name := fun hq => by
        rcases List.mem_append.mp hq with z | z
        · exact .inl z
        · rw [List.mem_singleton.mp z]
          exact .inr ⟨j, hm, rfl⟩
      split at hq
      · split at hq
        · rcases List.mem_append.mp hq with z | z
          · exact .inl (List.dropLast_subset _ z)
          · rw [List.mem_singleton.mp z]
            exact .inr ⟨j, hm, rfl⟩
        · exact key hq
      · exact key hq
end K7

set_option Elab.async false
set_option linter.all false
set_option maxRecDepth 100000
set_option maxHeartbeats 8000000
namespace K7
open PySem PySem.Spec PySem.W L2 Pw
open PyProof.Rows hiding St
open Evl (sq_of st_of)
variable [Tbs]
/-! ### the machine walked -/
def spWorked (K : PySem.W.Frag) (c : Cs) : Sp := fun vs H Q _ => ∃ (B0 H0 B : Hp) (l : Addr) (ps : List Addr) (js : List Jb) (til : Int) (g : Bool), vs = [.ref l, .int til, .bl g] ∧ Grow B0 H0 B H ∧ B l = some (.lst (ps.map V.ref)) ∧ Cells (JobC K c) H0 B H ps js ∧ GoodW g js ∧ js.length ≤ 20000 ∧
  ∀ w v B' H', Steps g til ⟨js, [], (minO (js.map fun j => j.r.rel)).getD til⟩ w → ¬ w.hour < til → Grow B0 H0 B' H' → Ex B B' → Cells (JobC K c) H0 B' H' ps w.js → LsOf K (DR K st4D) w.tr B' v → Q v H'
/-- a job with its place -/
def PlaceAt (K : PySem.W.Frag) (c : Cs) : Rl (Addr × Jb) := fun B v q => v = .ref q.1 ∧ JobAt K c B v q.2
instance {K : PySem.W.Frag} {c : Cs} : MonoR (PlaceAt K c) := ⟨fun e ⟨h1, h2⟩ => ⟨h1, MonoR.up (R := JobAt K c) e h2⟩⟩
section
variable {P : Program} {w : World} {K : PySem.W.Frag} {mg : Str → Option Value} {base : Heap} {c : Cs} {f : Addr} {fd : FuncData}
theorem items_place {H : Hp} : ∀ {ps : List Addr} {js : List Jb}, Items (JobAt K c) js H (ps.map V.ref) → Items (PlaceAt K c) (ps.zip js) H (ps.map V.ref)
  | [], _, h => .nil
  | p :: ps, [], h => nomatch h
  | p :: ps, j :: js, h => by
    cases h with
    | cons a b => exact .cons ⟨rfl, a⟩ (items_place b)
abbrev s_worked : Stmt := top 19
theorem sc_worked : FnScope ["jobs", "until", "guard", "trace", "job", "hour", "ready", "later", "stops", "stop"] ["jobs", "until", "guard"] (defScope s_worked) := ⟨rfl, rfl, rfl, by decide +kernel, rfl, by decide +kernel, by decide +kernel⟩
/- slots: 0=jobs 1=until 2=guard 3=trace 4=job 5=hour 6=ready 7=later 8=stops 9=stop -/
/-- the lambda's qualified name -/
def lamQ : Str := (Str.ofString "worked" ++ ".<locals>.") ++ "<lambda>"
def w_lam : Expr := match (defBody s_worked).getD 2 (.Pass ⟨0, 0, 0, 0⟩) with
  | .While _ b _ _ => (match b.getD 3 (.Pass ⟨0, 0, 0, 0⟩) with
    | .Assign _ (.Call _ _ [k] _) _ => k.value
    | _ => .Name "" ⟨0, 0, 0, 0⟩)
  | _ => .Name "" ⟨0, 0, 0, 0⟩
def lPar : Expr → Arguments
  | .Lambda p _ _ _ => p
  | _ => defArgs s_worked
def lBody : Expr → Expr
  | .Lambda _ b _ _ => b
  | e => e
def lScope : Expr → Scope
  | .Lambda _ _ s _ => s
  | _ => defScope s_worked
theorem keyfn {X : Cx} {q : Str} (C : Cls X.K c.Job) (G : Gm X.prog X.w X.K X.mg X.base 2 c.Job "urgency" ["self"] [] (Pure (R_urgency K c))) : KeyFn X q (lPar w_lam) (lBody w_lam) (lScope w_lam) 2 ["one"] "one" (tMeth c.Job "urgency" (Pure (R_urgency K c)) [] E0 (tVar 0) tNil) where
  sc := ⟨rfl, rfl, rfl, by decide +kernel, rfl, by decide +kernel, by decide +kernel⟩
  bind := fun _ _ _ _ => rfl
  body := fun A outer s H E f cv hr => pe_gm0 (pv 0) C G hr
def lPos : Expr → Pos
  | .Lambda _ _ _ p => p
  | _ => ⟨0, 0, 0, 0⟩
theorem w_lam_eq : w_lam = .Lambda (lPar w_lam) (lBody w_lam) (lScope w_lam) (lPos w_lam) := rfl
theorem lam_free : ∀ y ∈ (lScope w_lam).names, y.2 ≠ .free := by decide +kernel
theorem lam_def (env : Env) : defaultsOf (lPar w_lam) env = ([], []) := rfl
theorem pe_minKey {X : Cx} {q : Str} {te ke : TE} {x : Str} {px p kp pos : Pos} {cA tA : Addr} {y : Str} {N : List Str} {k : Nat} (KF : KeyFn X q (lPar w_lam) (lBody w_lam) (lScope w_lam) k N y ke) (hrK : Room (k + 2) X.A) (hq : X.env.qual ++ "<lambda>" = q) (TB : LamX.TabB X.base X.mg cA tA) (hcode : X.env.code = .ref cA) (hmT : (tA, q) ∈ Tbs.T) (huT : ∀ p ∈ Tbs.T, p.1 = tA → p.2 = q)
    (hg : Gl X "min") (hm : X.mg "min" = none) (he : PE X (.Name x px) te) : PE X (.Call (.Name "min" p) [.Name x px] [⟨some "key", w_lam, kp⟩] pos) (tCKw (rMinKey X.K q (lPar w_lam) (lBody w_lam) (lScope w_lam) N ke) (tCons te tNil) (tCons (tLamF q (lPar w_lam) (lBody w_lam) (lScope w_lam)) tNil)) := by
  subst hq
  have hl : PE X w_lam (tLamF (X.env.qual ++ "<lambda>") (lPar w_lam) (lBody w_lam) (lScope w_lam)) := by
    rw [w_lam_eq]
    exact pe_lam TB hcode hmT huT (lam_def _) lam_free
  exact pe_callBK (cr_minKey KF hrK) hg hm (by decide +kernel) (pa_cons he pa_nil) (pk_cons hl pk_nil)
end
end K7

set_option Elab.async false
set_option linter.all false
set_option maxRecDepth 100000
set_option maxHeartbeats 8000000
namespace K7
open PySem PySem.Spec PySem.W L2 Pw
open PyProof.Rows hiding St
open Evl (sq_of st_of)
variable [Tbs]
section
variable {P : Program} {w : World} {K : PySem.W.Frag} {mg : Str → Option Value} {base : Heap} {c : Cs} {f : Addr} {fd : FuncData}
def WPv (K : PySem.W.Frag) (c : Cs) (B0 H0 B : Hp) (l t : Addr) (ps : List Addr) (js : List Jb) (til : Int) (g : Bool) (m : Nat) (σ' : L2.St) (B' H' : Hp) : Prop := ∃ (wst : Ws) (ys : List V) (y4 y6 y7 y8 y9 : Option V), σ' = [some (.ref l), some (.int til), some (.bl g), some (.ref t), y4, some (.int wst.hour), y6, y7, y8, y9] ∧ Grow B0 H0 B' H' ∧ Ex B B' ∧ Cells (JobC K c) H0 B' H' ps wst.js ∧ Cell H0 B' H' t (.lst ys) ∧
    Items (DR K st4D) wst.tr B' ys ∧ Steps g til ⟨js, [], (minO (js.map fun j : Jb => j.r.rel)).getD til⟩ wst ∧ GoodW g wst.js ∧ wst.js.length = js.length ∧ (∀ q ∈ wst.tr, PyData.strOk q.n = true) ∧ m = muW til wst ∧ wst.tr.length + m ≤ 2 * js.length + 1
theorem q_callH {sp : Sp} {tr : TA} {tz : TS} {D : Ends} {σ : L2.St} {H : Hp} {E : XK} {vs : List V} (t : Tb H) (h : EvA tr σ H (Iss vs)) (k : ∀ H1, Ex H H1 → sp vs H1 (fun _ H2 => tz D σ H2) E) : tSeq (tDrop (tCall sp [] E tr)) tz D σ H :=
  h H (.refl t) _ fun ws B1 H1 g1 e => by
    cases e
    show sp (vs ++ []) H1 _ E
    rw [List.append_nil]
    exact k H1 g1.h
theorem q_fldaugI {ta tv : TE} {tz : TS} {D : Ends} {σ : L2.St} {H0 B H : Hp} {a C dx : Addr} {fs : List (Str × V)} {fn : Str} {i j : Int} {Kf : PySem.W.Frag} (t : Tb H) (c : Cell H0 B H a (.ins C dx fs)) (ho : EvV ta σ H (.ref a)) (cl : Cls Kf C) (na : NoAttr Kf C fn) (l : fs.lookup fn = some (.int i)) (hz : fs.length < 1000) (hv : ∀ H1, Ex H H1 → EvV tv σ H1 (.int j))
    (k : ∀ H1, Ex H H1 → tz D σ (upd H1 a (.ins C dx (putF fn (.int (i + j)) fs)))) : tSeq (sFldAug Kf ta tv (rI0 fun i j => .int (i + j)) fn) tz D σ H :=
  ho H (.refl t) _ fun w B1 H1 g1 e => by
    cases e
    have c1 := c.ext g1.h
    refine ⟨a, C, dx, fs, .int i, rfl, c1.at_, cl, na, l, hv H1 g1.h H1 (.refl g1.h.r) _ fun y B2 H2 g2 e => ?_⟩
    cases e
    exact ⟨i, j, rfl, rfl, dx, fs, (c1.ext g2.h).at_, hz, k H2 (g1.h.trans g2.h)⟩
theorem zip_ready {ps : List Addr} {js : List Jb} {h : Int} (e : ps.length = js.length) : ((ps.zip js).filter fun q => isReady h q.2) = (readyAt js h).map fun i => (ps.getD i 0, js.getD i noJob) := by
  have base : ps.zip js = (List.range js.length).map fun i => (ps.getD i 0, js.getD i noJob) := by
    refine List.ext_getElem (by simp [e]) fun n h1 h2 => ?_
    have n1 : n < js.length := by simp [e] at h1; exact h1
    have n2 : n < ps.length := by omega
    simp [List.getElem_zip, List.getD_eq_getElem?_getD, List.getElem?_eq_getElem n1, List.getElem?_eq_getElem n2]
  unfold readyAt
  rw [base, List.filter_map]
  congr 1
  refine List.filter_congr fun i hi => ?_
  have n1 : i < js.length := List.mem_range.mp hi
  simp [List.getD_eq_getElem?_getD, List.getElem?_eq_getElem n1]
theorem minOr_int (ns : List Int) (d : Int) : minOr (.int d) ns = .int ((minO ns).getD d) := by cases ns <;> rfl
theorem dec_oV (o : Option Int) : decide (oV o = .non) = decide (o = none) := by
  cases o with
  | none => rfl
  | some i => exact (decide_eq_false (by simp)).trans (decide_eq_false (by simp [oV])).symm |>.symm
theorem urg_alike (a b : Jb) : alike (urgD a) (urgD b) = true := by simp [urgD, alike, alikeAll]
theorem urg_depth (a : Jb) : (urgD a).depth ≤ 50 := by simp [urgD, PyData.depth, PyData.depthAll]
theorem st_ok {js : List Jb} {tr tr' : List St4} {g : Bool} (G : GoodW g js) (h : ∀ q ∈ tr, PyData.strOk q.n = true) (k : ∀ q ∈ tr', q ∈ tr ∨ ∃ j ∈ js, q.n = j.t.name) : ∀ q ∈ tr', PyData.strOk q.n = true := fun q hq => by
  rcases k q hq with z | ⟨j, hj, e⟩
  · exact h q z
  · rw [e]; exact G.ok j hj
theorem ok_worked {cA tA : Addr} (F : Fun K "worked" "worked" s_worked f fd) (T : Txt K mg c) (hcode : fd.code = .ref cA) (TB : LamX.TabB base mg cA tA) (hmT : (tA, lamQ) ∈ Tbs.T) (huT : ∀ p ∈ Tbs.T, p.1 = tA → p.2 = lamQ)
    (G_next_release : Gf P w K mg base 1 "next_release" ["waiting", "hour"] [] (Pure (R_nextRelease K c))) (G_added : Gf P w K mg base 1 "added" ["trace", "start", "stop", "job"] [] (spAdded K c)) (G_Job_urgency : Gm P w K mg base 2 c.Job "urgency" ["self"] [] (Pure (R_urgency K c)))
    (G_Job_turns : Gm P w K mg base 2 c.Job "turns" ["self", "guard"] [] (Pure (R_turns K c))) (G_Job_goal : Gm P w K mg base 1 c.Job "goal" ["self", "guard"] [] (Pure (R_goal K c))) :
    FnOk P w K mg base CX0 5 f fd ["jobs", "until", "guard"] (spWorked K c) := by
  refine sp_okC F sc_worked (fun vs H Q E ⟨B0, H0, B, l, ps, js, til, g, h, _⟩ => by rw [h]; rfl) fun A outer s0 Hh E hr => ?_
  have hrK : Room (2 + 2) (A.deeper (envOfC "worked" (defScope s_worked) s0.heap.objs.size f fd.code)) := hr
  have KF := keyfn (X := (cxOf CX0 P w K mg base ["jobs", "until", "guard", "trace", "job", "hour", "ready", "later", "stops", "stop"] "worked" (defScope s_worked) f fd.code A outer s0 Hh E).nox) (q := lamQ) T.c_Job G_Job_urgency
  refine ⟨_, (pss_cons (ps_set (i := 3) sc_worked.nd rfl (by first | exact Or.inl rfl | exact Or.inr rfl) (pe_lst pa_nil))
        (pss_cons (ps_set (i := 5) sc_worked.nd rfl (by first | exact Or.inl rfl | exact Or.inr rfl) (pe_callBK (cr_minDflt rfl hr.units) (by rfl) T.b_min (by decide +kernel) (pa_cons (pe_lc (own := [("job", 4)]) rfl sc_worked.nd (pi_list (pv 0)) (blkOk_by (N := ["jobs", "until", "guard", "trace", "job", "hour", "ready", "later", "stops", "stop"]) (sc := defScope s_worked) (by decide +kernel)) (fun _ _ _ _ _ => (pg_name (i := 4) sc_worked.nd rfl (by first | exact Or.inl rfl | exact Or.inr rfl))) (fun _ _ _ _ _ => pts_nil) (fun _ _ _ _ _ => (pe_fldK (K := K) rfl (pv 4) rfl))) pa_nil) (pk_cons (pv 1) pk_nil)))
        (pss_cons (ps_while PassesOwn.never (pt_cmpR op_lt (pv 5) (pv 1) (nomark _))
        (pss_cons (ps_setLc (i := 6) (own := [("job", 4)]) rfl sc_worked.nd rfl rfl (sw_true rfl rfl rfl (by decide +kernel)) (pi_list (pv 0)) (blkOk_by (N := ["jobs", "until", "guard", "trace", "job", "hour", "ready", "later", "stops", "stop"]) (sc := defScope s_worked) (by decide +kernel)) (fun _ _ _ _ _ => (pg_name (i := 4) sc_worked.nd rfl (by first | exact Or.inl rfl | exact Or.inr rfl))) (fun _ _ _ _ _ => pts_one (PW.pt (pw_and (pt_cmpR op_le (pe_fldK (K := K) rfl (pv 4) rfl) (pv 5) (nomark _)) (pw_and1 (pt_cmpR op_isN (pe_fldK (K := K) rfl (pv 4) rfl) pe_non (nomark _)))))) (fun _ _ _ _ _ => (pv 4)))
        (pss_cons (ps_set (i := 7) sc_worked.nd rfl (by first | exact Or.inl rfl | exact Or.inr rfl) (pe_g G_next_release (hr.mono (by decide)) (by rfl) (pa_cons (pv 0) (pa_cons (pv 5) pa_nil))))
        (pss_cons (ps_if (pt_cmpR (op_eqNil hr.units) (pv 6) (pe_lst pa_nil) (nomark _)) (pss_cons (ps_set (i := 5) sc_worked.nd rfl (by first | exact Or.inl rfl | exact Or.inr rfl) (pe_ifExp (pt_cmpR op_isN (pv 7) pe_non (nomark _)) (pv 1) (pv 7)))
        (pss_one ps_continue)) pss_nil)
        (pss_cons (ps_set (i := 4) sc_worked.nd rfl (by first | exact Or.inl rfl | exact Or.inr rfl) (pe_minKey KF hrK rfl TB hcode hmT huT (by rfl) T.b_min (pv 6)))
        (pss_cons (ps_set (i := 8) sc_worked.nd rfl (by first | exact Or.inl rfl | exact Or.inr rfl) (pe_lst (pa_cons (pv 1) (pa_cons (pe_op op_sub (pe_op op_add (pv 5) (pe_gm (pv 4) T.c_Job G_Job_turns (hr.mono (by decide)) (pa_cons (pv 2) pa_nil))) (pe_fld (pv 4) rfl)) pa_nil))))
        (pss_cons (ps_if (pt_cmpR op_notN (pv 7) pe_non (nomark _)) (pss_one (ps_expr (pe_bm PySem.F.plainAttrs_list PySem.F.slot_list_append PySem.F.type_list_append mt_append (pv 8) (pa_cons (pv 7) pa_nil)))) pss_nil)
        (pss_cons (ps_set (i := 9) sc_worked.nd rfl (by first | exact Or.inl rfl | exact Or.inr rfl) (pe_callB (cr_min rfl) (by rfl) T.b_min (by decide +kernel) (pa_cons (pv 8) pa_nil)))
        (pss_cons (ps_expr (pe_g G_added (hr.mono (by decide)) (by rfl) (pa_cons (pv 3) (pa_cons (pv 5) (pa_cons (pv 9) (pa_cons (pv 4) pa_nil))))))
        (pss_cons (ps_fldaug (pv 4) (pe_op op_sub (pv 9) (pv 5)) in_add)
        (pss_cons (ps_if (pt_cmpR op_eq (pe_fld (pv 4) rfl) (pe_gm (pv 4) T.c_Job G_Job_goal (hr.mono (by decide)) (pa_cons (pv 2) pa_nil)) (nomark _)) (pss_one (ps_fld (pv 4) (pv 9) rfl)) pss_nil)
        (pss_one (ps_set (i := 5) sc_worked.nd rfl (by first | exact Or.inl rfl | exact Or.inr rfl) (pv 9))))))))))))))
        (pss_one (ps_ret (pv 3)))))), ?_⟩
  rintro vs H Q E' ⟨B0, H0, B, l, ps, js, til, g, hv, gr, hl, cs, G, hlen, k⟩
  subst hv
  have plen : ps.length = js.length := Paired.length cs.at_
  -- trace = []
  refine q_newL gr fun t H1 ht e1 g1 c1 => ?_
  have cs1 := cs.ext e1
  have ntps : t ∉ ps := cs.ne_none ht
  have hjobs1 : LsOf K (JobAt K c) js H1 (.ref l) := ⟨l, _, rfl, g1.bh.at_ _ _ hl po_lst.1, cells_jobs cs1 g1.bh⟩
  -- hour
  refine q_rd (Pv := Is (.int ((minO (js.map fun j : Jb => j.r.rel)).getD til))) g1.bh.r (evv_cast (evv_minDflt (ns := js.map fun j : Jb => j.r.rel) (evp_lcA (K := K) (R := JobAt K c) (S := VR V.int) (fun j : Jb => j.r.rel) (evi_list (evp_var (i := 0) rfl hjobs1)) (by omega) fun B' x a e ha hx => ⟨_, evg_name, rfl, jb_freed T (evv_var rfl) hx⟩) (evv_var (i := 1) rfl)) (minOr_int _ _)) fun hv H2 e2 hh => ?_
  cases hh
  refine q_while (WPv K c B0 H0 B l t ps js til g) (B := B)
    (m0 := muW til ⟨js, [], (minO (js.map fun j : Jb => j.r.rel)).getD til⟩) (g1.bh.trans e2) ⟨⟨js, [], _⟩, [], none, none, none, none, none, rfl, g1.ext e2, .refl g1.bh.l, cs1.ext e2, c1.ext e2, .nil, .refl _, G, rfl, (fun _ h => nomatch h), rfl, ?_⟩ ?_
  · unfold muW notYet going
    have a1 := List.length_filter_le (fun j : Jb => decide (j.r.rel > (minO (js.map fun j : Jb => j.r.rel)).getD til)) js
    have a2 := List.length_filter_le (fun j : Jb => decide (j.ended = none)) js
    simp only [List.length_nil]
    split <;> omega
  rintro m σ' B' H' bh' ⟨wst, ys, y4, y6, y7, y8, y9, rfl, gw, eb, csw, ct, itw, st, Gw, lw, okw, rfl, bd⟩
  refine ⟨decide (wst.hour < til), evt_test (evv_I0 (evv_var rfl) (evv_var rfl)), fun hb H3 e3 => ?_, fun hb H3 e3 => ?_⟩
  rotate_left
  · -- the end
    have g3 := gw.ext e3
    have c3 := ct.ext e3
    refine ⟨_, rfl, k wst _ _ _ st (of_decide_eq_false hb) (g3.freeze c3) (eb.trans (Ex.new g3.bh.l c3.nb)) ((csw.ext e3).freeze ntps (Ex.new g3.bh.l c3.nb)) ⟨t, ys, rfl, upd_same, Mono.up (P := Items (DR K st4D) _) (Ex.new g3.bh.l c3.nb) itw⟩⟩
  have lt := of_decide_eq_true hb
  obtain ⟨sg1, sg2, sg3, sg4, sg5⟩ := step_good Gw lt
  have plw : ps.length = wst.js.length := by rw [lw]; exact plen
  have hl' : B' l = some (.lst (ps.map V.ref)) := eb.at_ _ _ hl po_lst.1
  have places : ∀ Hx, Ex H' Hx → LsOf K (PlaceAt K c) (ps.zip wst.js) Hx (.ref l) := fun Hx ex => ⟨l, _, rfl, (gw.ext ex).bh.at_ _ _ hl' po_lst.1, items_place (cells_jobs (csw.ext ex) (gw.ext ex).bh)⟩
  have jobs : ∀ Hx, Ex H' Hx → LsOf K (JobAt K c) wst.js Hx (.ref l) := fun Hx ex => ⟨l, _, rfl, (gw.ext ex).bh.at_ _ _ hl' po_lst.1, cells_jobs (csw.ext ex) (gw.ext ex).bh⟩
  -- ready
  refine q_rd (Pv := LsOf K (PlaceAt K c) (((ps.zip wst.js).filter fun q : Addr × Jb => isReady wst.hour q.2).map fun q : Addr × Jb => q)) e3.r (evp_lcI (K := K) (R := PlaceAt K c) (S := PlaceAt K c) (fun q : Addr × Jb => isReady wst.hour q.2) (fun q => q) (evi_list (evp_var (i := 0) rfl (places H3 e3))) (by rw [List.length_zip]; omega) fun Bx x q ex hq hx => ?_) fun rv H4 e4 hrv => ?_
  · refine ⟨_, evg_name, rfl, evt_and (evt_test (evv_I0 (jb_freed T (evv_var rfl) hx.2) (evv_var rfl))) fun _ => evt_eq (evt_test (evv_op (x := oV q.2.ended) (y := .non) (jb_ended T (evv_var rfl) hx.2) evv_c fun _ _ => evr_now (fun H _ Q q => ⟨rfl, q⟩) rfl)) (dec_oV _), fun _ => evp_var rfl hx⟩
  rw [List.map_id', zip_ready plw] at hrv
  have e34 := e3.trans e4
  -- later
  refine q_rd (Pv := Is (oV (nextRel wst.js wst.hour))) e4.r (evp_call (evas_cons (evv_var (i := 0) rfl) (evas_cons (evv_var (i := 5) rfl) eva_nil)) fun Bx vs ex hvs => ?_) fun lv H5 e5 hlv => ?_
  · cases hvs
    exact ⟨_, wst.js, wst.hour, rfl, Mono.up (P := LsOf K (JobAt K c) wst.js) ex (jobs H4 e34), by omega, rfl⟩
  cases hlv
  have e35 := e34.trans e5
  have hrv5 : LsOf K (PlaceAt K c) ((readyAt wst.js wst.hour).map fun i => (ps.getD i 0, wst.js.getD i noJob)) H5 rv := Mono.up (P := LsOf K (PlaceAt K c) _) e5 hrv
  by_cases hne : readyAt wst.js wst.hour = []
  · -- nothing is ready
    refine q_ifH (b := true) e5.r (evt_eq (evt_test (evv_eqNil (R := PlaceAt K c) (evp_var (i := 6) rfl hrv5) (evp_lstV (fe := V.int) (as := []) eva_nil (by simp)))) (by rw [hne]; rfl)) (fun _ H6 e6 => ?_) fun z => by cases z
    refine q_rd (Pv := Is (.int ((nextRel wst.js wst.hour).getD til))) e6.r ?_ fun nv H7 e7 hnv => ?_
    · cases hz : nextRel wst.js wst.hour with
      | none => exact evv_cast (evv_if (b := true) (y := .non) (evt_test (evv_op (x := .non) (y := .non) (evv_var (i := 7) rfl) evv_c fun _ _ => evr_now (fun H _ Q q => ⟨rfl, q⟩) rfl)) (fun _ => evv_var (i := 1) rfl) fun h => by cases h) rfl
      | some z => exact evv_cast (evv_if (b := false) (x := .non) (evt_test (evv_op (x := .int z) (y := .non) (evv_var (i := 7) rfl) evv_c fun _ _ => evr_now (fun H _ Q q => ⟨rfl, q⟩) rfl)) (fun h => by cases h) fun _ => evv_var (i := 7) rfl) rfl
    · cases hnv
      have e37 := (e35.trans e6).trans e7
      have es : stepW g til wst = { wst with hour := (nextRel wst.js wst.hour).getD til } := by unfold stepW; rw [if_pos hne]
      refine ⟨muW til (stepW g til wst), B', sg1, (gw.ext e37).bh, stepW g til wst, ys, y4, some rv, some (oV (nextRel wst.js wst.hour)), y8, y9, ?_, gw.ext e37, eb, ?_, ct.ext e37, ?_, st.step lt, sg2, by rw [sg3, lw], ?_, rfl, by omega⟩
      · rw [es]; rfl
      · rw [es]; exact csw.ext e37
      · rw [es]; exact itw
      · rw [es]; exact okw
  -- the one that works
  refine q_ifH (b := false) e5.r (evt_eq (evt_test (evv_eqNil (R := PlaceAt K c) (evp_var (i := 6) rfl hrv5) (evp_lstV (fe := V.int) (as := []) eva_nil (by simp)))) (by cases hz : readyAt wst.js wst.hour with | nil => exact absurd hz hne | cons _ _ => rfl)) (fun z => by cases z) fun _ H6 e6 => ?_
  have e36 := e35.trans e6
  have hrv6 : LsOf K (PlaceAt K c) ((readyAt wst.js wst.hour).map fun i => (ps.getD i 0, wst.js.getD i noJob)) H6 rv := Mono.up (P := LsOf K (PlaceAt K c) _) e6 hrv5
  obtain ⟨j, hj, hrdy⟩ := readyAt_mem (pick_mem hne)
  have ej : wst.js.getD (pick wst.js wst.hour) noJob = j := by rw [List.getD_eq_getElem?_getD, hj]; rfl
  have hm : j ∈ wst.js := List.mem_of_getElem? hj
  obtain ⟨r1, r2⟩ := Bool.and_eq_true_iff.mp (show (decide (j.r.rel ≤ wst.hour) && decide (j.ended = none)) = true from hrdy)
  have jlt := Gw.lt j hm (of_decide_eq_true r2)
  obtain ⟨p, hp⟩ : ∃ p, ps[pick wst.js wst.hour]? = some p := ⟨_, List.getElem?_eq_getElem (by have := (List.getElem?_eq_some_iff.mp hj).1; omega)⟩
  have ep : ps.getD (pick wst.js wst.hour) 0 = p := by rw [List.getD_eq_getElem?_getD, hp]; rfl
  refine q_rd (Pv := Is (.ref p)) e6.r (evv_cast (evp_minKey (R := PlaceAt K c) (as := (readyAt wst.js wst.hour).map fun i => (ps.getD i 0, wst.js.getD i noJob)) (fun q => q.1) (fun q => urgD q.2) (ps.getD 0 0, wst.js.getD 0 noJob) (evp_var (i := 6) rfl hrv6) (fun _ _ _ h => h.1) (by simpa using hne) (fun x _ y _ => urg_alike _ _) (fun x _ h => by cases h) (fun x _ => urg_depth _) fun Bx v q ex hq hx => ?_) ?_) fun jv H7 e7 hjv => ?_
  · exact ev_job (evv_var (i := 0) rfl) hx.2 rfl eva_nil fun B2 e2 => ⟨v, q.2, rfl, MonoR.up (R := JobAt K c) e2 hx.2, rfl⟩
  · rw [List.map_map, List.length_map]
    show V.ref ((((readyAt wst.js wst.hour).map fun i => (ps.getD i 0, wst.js.getD i noJob)).getD (argBest (keyBt ((readyAt wst.js wst.hour).map fun i => urgD (wst.js.getD i noJob))) ((readyAt wst.js wst.hour).length - 1)) (ps.getD 0 0, wst.js.getD 0 noJob)).1) = V.ref p
    rw [← ep]
    unfold pick
    rw [List.getD_eq_getElem?_getD, List.getElem?_map, List.getD_eq_getElem?_getD (l := readyAt wst.js wst.hour)]
    cases (readyAt wst.js wst.hour)[argBest (keyBt ((readyAt wst.js wst.hour).map fun i => urgD (wst.js.getD i noJob))) ((readyAt wst.js wst.hour).length - 1)]? <;> rfl
  cases hjv
  have e37 := e36.trans e7
  have pIn : p ∈ ps := List.mem_of_getElem? hp
  have jobC : ∀ Hx, Ex H' Hx → JobAt K c Hx (.ref p) j := fun Hx ex => by
    obtain ⟨j2, h1, h2⟩ := Pw.paired_get csw.at_ hp
    rw [hj] at h1
    cases h1
    exact JobC.job (CellR.ext h2 ex) (gw.ext ex).bh
  -- stops
  refine q_newLV (gw.ext e37) (vs := [.int til, .int (wst.hour + goalOf g j - j.ticks)]) (evas_cons (evv_var (i := 1) rfl) (evas_cons (evv_I0 (evv_I0 (evv_var (i := 5) rfl) (ev_job (evv_var (i := 4) rfl) (jobC H7 e37) rfl (evas_cons (evv_var (i := 2) rfl) eva_nil) fun B2 e2 => ⟨_, j, g, rfl, MonoR.up (R := JobAt K c) e2 (jobC H7 e37), jlt, rfl⟩)) (jb_ticks T (evv_var (i := 4) rfl) (jobC H7 e37))) eva_nil)) (by simp) fun sp H8 e8 hsp g8 c8 => ?_
  have e38 := e37.trans e8
  have ct8 := ct.ext e38
  have cs8 := csw.ext e38
  have spps : sp ∉ ps := (csw.ext e37).ne_none hsp
  have spt : sp ≠ t := fun z => by rw [z, (ct.ext e37).at_] at hsp; cases hsp
  have es : stepW g til wst = ⟨wst.js.set (pick wst.js wst.hour) (doneJ g wst.hour (stopOf g til wst.hour (nextRel wst.js wst.hour) j) j), addF wst.tr wst.hour (stopOf g til wst.hour (nextRel wst.js wst.hour) j) j.t.name j.r.num, stopOf g til wst.hour (nextRel wst.js wst.hour) j⟩ := by
    unfold stepW
    rw [if_neg hne]
    dsimp only
    rw [ej]
  generalize hstop : stopOf g til wst.hour (nextRel wst.js wst.hour) j = stop at es
  -- what comes behind the stops
  have rest : ∀ D : Ends, (∀ σ2 H2, (∃ m' B2, m' < muW til wst ∧ Ex B2 H2 ∧ WPv K c B0 H0 B l t ps js til g m' σ2 B2 H2) → D.nx σ2 H2) → ∀ (B9 H9 : Hp) (n : Int) (r : List Int), Grow B0 H0 B9 H9 → Ex B' B9 → Cells (JobC K c) H0 B9 H9 ps wst.js → Cell H0 B9 H9 t (.lst ys) → Cell H0 B9 H9 sp (.lst ((n :: r).map V.int)) → r.foldl min n = stop →
      tSeq (tAsg (tCB (rMin K) (tCons (tVar 8) tNil)) (gName 9)) (tSeq (tDrop (tCall (spAdded K c) [] E0 (tCons (tVar 3) (tCons (tVar 5) (tCons (tVar 9) (tCons (tVar 4) tNil))))))
        (tSeq (sFldAug K (tVar 4) (tOp (rI0 fun i j => .int (i - j)) (tVar 9) (tVar 5)) (rI0 fun i j => .int (i + j)) "ticks")
        (tSeq (tIfS (tTest (tOp rEq (tFld K (tVar 4) "ticks") (tMeth c.Job "goal" (Pure (R_goal K c)) [] E0 (tVar 4) (tCons (tVar 2) tNil)))) (sFld K (tVar 4) (tVar 9) "ended") tNext)
          (tAsg (tVar 9) (gName 5)))))
        D [some (.ref l), some (.int til), some (.bl g), some (.ref t), some (.ref p), some (.int wst.hour), some rv, some (oV (nextRel wst.js wst.hour)), some (.ref sp), y9] H9 := fun D hD B9 H9 n r g9 e9 cs9 ct9 csp9 hmin => by
    -- stop
    refine q_rd (Pv := Is (.int stop)) g9.bh.r (evv_cast (evv_minL (K := K) (n := n) (r := r) (evp_var (i := 8) rfl ⟨sp, _, rfl, csp9.at_, items_vr⟩)) (by rw [hmin])) fun sv H10 e10 hsv => ?_
    cases hsv
    have g10 := g9.ext e10
    have cs10 := cs9.ext e10
    have ct10 := ct9.ext e10
    have it10 : Items (DR K st4D) wst.tr B9 ys := Mono.up (P := Items (DR K st4D) wst.tr) e9 itw
    obtain ⟨jx, hx1, hx2⟩ := Pw.paired_get cs10.at_ hp
    rw [hj] at hx1
    cases hx1
    -- added
    refine q_callH g10.bh.r (evas_cons (evv_var (i := 3) rfl) (evas_cons (evv_var (i := 5) rfl) (evas_cons (evv_var (i := 9) rfl) (evas_cons (evv_var (i := 4) rfl) eva_nil)))) fun H11 e11 => ?_
    have g11' := g10.ext e11
    have cs11 := cs10.ext e11
    have ct11 := ct10.ext e11
    refine ⟨B9, t, ys, wst.tr, wst.hour, stop, .ref p, j, rfl, g11'.bh, ct11.nb, ct11.at_, it10, JobC.job (CellR.ext hx2 e11) g11'.bh, by omega, Gw.ok j hm, okw, fun B12 H12 ys' g12 nb12 at12 it12 => ?_⟩
    have gg := g11'.via ct11 g12
    have cs12 := cs11.via ntps g12
    have ct12 : Cell H0 B12 H12 t (.lst ys') := ⟨at12, nb12, ct11.n0, po_lst⟩
    obtain ⟨jx, hx1, dx, fs, cp, tv, bv, hfs, htk, hbv⟩ := Pw.paired_get cs12.at_ hp
    rw [hj] at hx1
    cases hx1
    subst hfs
    have npt : t ≠ p := fun z => ntps (z ▸ pIn)
    -- job.ticks += stop - hour
    refine q_fldaugI gg.bh.r cp (evv_var (i := 4) rfl) T.c_Job T.n_Job_ticks (i := j.ticks) rfl (by show 9 < 1000; decide) (fun _ _ => evv_I0 (evv_var (i := 9) rfl) (evv_var (i := 5) rfl)) fun H13 e13 => ?_
    have cp13 := cp.ext e13
    have g13 := (gg.ext e13).mut (o' := .ins c.Job dx (jobF tv bv { j with ticks := j.ticks + (stop - wst.hour) })) cp13
    have cs13 : Cells (JobC K c) H0 B12 (upd H13 p (.ins c.Job dx (jobF tv bv { j with ticks := j.ticks + (stop - wst.hour) }))) ps (wst.js.set (pick wst.js wst.hour) { j with ticks := j.ticks + (stop - wst.hour) }) := (cs12.ext e13).set hp ⟨dx, _, cp13.set, tv, bv, rfl, htk, hbv⟩
    have ct13 := (ct12.ext e13).other (o' := .ins c.Job dx (jobF tv bv { j with ticks := j.ticks + (stop - wst.hour) })) npt
    have cp14 : Cell H0 B12 (upd H13 p (.ins c.Job dx (jobF tv bv { j with ticks := j.ticks + (stop - wst.hour) }))) p (.ins c.Job dx (jobF tv bv { j with ticks := j.ticks + (stop - wst.hour) })) := cp13.set
    show tSeq (tIfS _ _ _) _ _ _ (upd H13 p (.ins c.Job dx (jobF tv bv { j with ticks := j.ticks + (stop - wst.hour) })))
    generalize hH14 : upd H13 p (.ins c.Job dx (jobF tv bv { j with ticks := j.ticks + (stop - wst.hour) })) = H14 at g13 cs13 ct13 cp14
    have jA : JobAt K c H14 (.ref p) { j with ticks := j.ticks + (stop - wst.hour) } := ⟨p, dx, _, rfl, cp14.at_, tv, bv, rfl, MonoR.up (R := TaskAt K c) g13.bh htk, Mono.up (P := LsOf K (VR V.int) ([] : List Int)) g13.bh hbv⟩
    have gsame : goalOf g { j with ticks := j.ticks + (stop - wst.hour) } = goalOf g j := rfl
    have hlast : ∀ B15 H15, Grow B0 H0 B15 H15 → Ex B12 B15 → Cells (JobC K c) H0 B15 H15 ps (stepW g til wst).js → Cell H0 B15 H15 t (.lst ys') → tAsg (tVar 9) (gName 5) D [some (.ref l), some (.int til), some (.bl g), some (.ref t), some (.ref p), some (.int wst.hour), some rv, some (oV (nextRel wst.js wst.hour)), some (.ref sp), some (.int stop)] H15 := fun B15 H15 g15 e15 cs15 ct15 => by
      refine s_rd (Pv := Is (.int stop)) g15.bh.r (evv_var (i := 9) rfl) fun nv H16 e16 hnv => ?_
      cases hnv
      have it15 : Items (DR K st4D) (stepW g til wst).tr B15 ys' := by
        rw [es]
        exact Mono.up (P := Items (DR K st4D) _) e15 it12
      refine hD _ _ ⟨muW til (stepW g til wst), B15, sg1, (g15.ext e16).bh, stepW g til wst, ys', some (.ref p), some rv, some (oV (nextRel wst.js wst.hour)), some (.ref sp), some (.int stop), ?_, g15.ext e16, ((eb.trans e9).trans g12.b).trans e15, cs15.ext e16, ct15.ext e16, it15, st.step lt, sg2, by rw [sg3, lw], st_ok Gw okw sg5, rfl, by omega⟩
      rw [es]
      rfl
    have js_eq : ∀ jn : Jb, jn = doneJ g wst.hour stop j → (wst.js.set (pick wst.js wst.hour) { j with ticks := j.ticks + (stop - wst.hour) }).set (pick wst.js wst.hour) jn = (stepW g til wst).js := fun jn e => by
      rw [es, List.set_set, e]
    refine q_ifH (b := decide (V.int (j.ticks + (stop - wst.hour)) = V.int (goalOf g j))) g13.bh.r (evt_test (evv_eq (jb_ticks T (evv_var (i := 4) rfl) jA) (ev_job (evv_var (i := 4) rfl) jA rfl (evas_cons (evv_var (i := 2) rfl) eva_nil) fun B2 e2 => ⟨_, _, g, rfl, MonoR.up (R := JobAt K c) e2 jA, rfl⟩) rfl)) (fun hb H15 e15 => ?_) fun hb H15 e15 => ?_
    · have hb' : j.ticks + (stop - wst.hour) = goalOf g j := by have := of_decide_eq_true hb; simpa using this
      refine s_fld (Pv := Is (.int stop)) (g13.ext e15) (cp14.ext e15) rfl T.c_Job T.n_Job_ended (by show 9 < 1000; decide) (evv_var (i := 9) rfl) fun w16 B16 H16 _ g16 c16 g16' p16 => ?_
      cases p16
      refine hlast B16 _ g16' g16.b ?_ ?_
      · rw [← js_eq { j with ticks := j.ticks + (stop - wst.hour), ended := some stop } (by unfold doneJ; rw [if_pos hb'])]
        have csx := (cs13.ext e15).grow g16
        exact csx.set hp ⟨dx, _, c16, tv, bv, rfl, MonoR.up (R := TaskAt K c) g16.b htk, Mono.up (P := LsOf K (VR V.int) ([] : List Int)) g16.b hbv⟩
      · exact ((ct13.ext e15).grow g16).other npt
    · have hb' : ¬ j.ticks + (stop - wst.hour) = goalOf g j := by have := of_decide_eq_false hb; simpa using this
      refine hlast B12 H15 (g13.ext e15) (.refl g13.bh.l) ?_ (ct13.ext e15)
      have e0 : wst.js.set (pick wst.js wst.hour) { j with ticks := j.ticks + (stop - wst.hour) } = (stepW g til wst).js := by
        rw [es]
        unfold doneJ
        rw [if_neg hb']
      rw [← e0]
      exact cs13.ext e15
  -- later, if any
  refine q_ifH (b := !decide (nextRel wst.js wst.hour = none)) g8.bh.r (evt_eq (evt_test (evv_op (x := oV (nextRel wst.js wst.hour)) (y := .non) (evv_var (i := 7) rfl) evv_c fun _ _ => evr_now (v := .bl (!decide (oV (nextRel wst.js wst.hour) = .non))) (fun H _ Q q => ⟨rfl, q⟩) rfl)) (by rw [dec_oV])) (fun hb H9 e9 => ?_) fun hb H9 e9 => ?_
  · obtain ⟨m2, hz⟩ : ∃ m2, nextRel wst.js wst.hour = some m2 := by
      cases hz : nextRel wst.js wst.hour with
      | none => rw [hz] at hb; cases hb
      | some m2 => exact ⟨m2, rfl⟩
    refine s_app (g8.ext e9) (c8.ext e9) rfl (Pv := Is (.int m2)) (evp_var (i := 7) (v := .int m2) (by show some (some (oV (nextRel wst.js wst.hour))) = _; rw [hz]; rfl) rfl) (by simp) fun v B10 H10 e10 keep g10 c10 p10 => ?_
    cases p10
    refine rest _ (fun σ2 H2 h => h) B10 _ til [wst.hour + goalOf g j - j.ticks, m2] g10 e10 ⟨pairedW (cs8.ext e9).at_ fun x jx hx ⟨dx, fs, h1, h2⟩ => ⟨dx, fs, keep _ _ (fun z => spps (z ▸ hx)) h1, h2.up e10⟩, cs8.nd⟩ (keep _ _ spt.symm (ct8.ext e9)) c10 ?_
    rw [← hstop]
    unfold stopOf
    rw [hz]
    rfl
  · have hz : nextRel wst.js wst.hour = none := by
      cases hz : nextRel wst.js wst.hour with
      | none => rfl
      | some m2 => rw [hz] at hb; cases hb
    refine rest _ (fun σ2 H2 h => h) B' H9 til [wst.hour + goalOf g j - j.ticks] (g8.ext e9) (.refl g8.bh.l) (cs8.ext e9) (ct8.ext e9) (c8.ext e9) ?_
    rw [← hstop]
    unfold stopOf
    rw [hz]
    rfl
end
end K7

set_option Elab.async false
set_option linter.all false
set_option maxRecDepth 100000
set_option maxHeartbeats 8000000
namespace K7
open PySem PySem.Spec PySem.W L2 Pw
open PyProof.Rows hiding St
open Evl (sq_of st_of)
variable [Tbs]
/-! ### a plan played -/
def startW (ts : List TaskD) (rows : List JR) (til : Int) : Ws := ⟨rows.map (jobOf ts), [], (minO ((rows.map (jobOf ts)).map fun j : Jb => j.r.rel)).getD til⟩
def PlayedAs (K : PySem.W.Frag) (w : Ws) : Hp → V → Prop := IsU K (ConsP (LsOf K (DR K toldD) w.js) (ConsP (LsOf K (DR K st4D) w.tr) (Iss [])))
def R_played (K : PySem.W.Frag) (c : Cs) : Hp → List V → (Hp → V → Prop) → Prop := fun B vs P => ∃ (v u : V) (ts : List TaskD) (rows : List JR) (til : Int) (g : Bool), vs = [v, u, .int til, .bl g] ∧ PlanAt K c B v ts ∧ (∀ t ∈ ts, t.secs = []) ∧ LsOf K (DR K jrD) rows B u ∧ rows.length ≤ 10000 ∧
  (∀ r ∈ rows, ∃ t ∈ ts, t.name = r.name) ∧ GoodW g (rows.map (jobOf ts)) ∧ P = fun B' v => ∃ w, Steps g til (startW ts rows til) w ∧ ¬ w.hour < til ∧ PlayedAs K w B' v
theorem q_callV {sp : Sp} {tr : TA} {tz : TS} {D : Ends} {σ : L2.St} {H : Hp} {E : XK} {vs : List V} {i : Nat} (t : Tb H) (h : EvA tr σ H (Iss vs)) (k : ∀ H1, Ex H H1 → sp vs H1 (fun v H2 => tz D (σ.set i (some v)) H2) E) : tSeq (tAsg (tCall sp [] E tr) (gName i)) tz D σ H :=
  h H (.refl t) _ fun ws B1 H1 g1 e => by
    cases e
    show sp (vs ++ []) H1 _ E
    rw [List.append_nil]
    exact k H1 g1.h
section
variable {P : Program} {w : World} {K : PySem.W.Frag} {mg : Str → Option Value} {base : Heap} {c : Cs} {f : Addr} {fd : FuncData}
/-- all of mine stand for good from here on -/
theorem freeze_all {B0 H0 H : Hp} : ∀ {ps : List Addr} {js : List Jb} {B : Hp}, Grow B0 H0 B H → Cells (JobC K c) H0 B H ps js → ∃ B', Grow B0 H0 B' H ∧ Ex B B' ∧ Items (JobAt K c) js B' (ps.map V.ref)
  | [], js, B, g, cs => ⟨B, g, .refl g.bh.l, by
    cases cs.at_
    exact .nil⟩
  | p :: ps, js, B, g, cs => by
    obtain ⟨h, nd⟩ := cs
    cases h with
    | cons a t =>
      rw [List.nodup_cons] at nd
      obtain ⟨dx, fs, c1, j1⟩ := a
      have e : Ex B (upd B p (.ins c.Job dx fs)) := Ex.new g.bh.l c1.nb
      obtain ⟨B2, g2, e2, it⟩ := freeze_all (g.freeze c1) (Cells.freeze ⟨t, nd.2⟩ nd.1 e)
      exact ⟨B2, g2, e.trans e2, .cons ⟨p, dx, fs, rfl, e2.at_ _ _ upd_same po_ins.1, j1.up (e.trans e2)⟩ it⟩
abbrev s_played : Stmt := top 21
theorem sc_played : FnScope ["plan", "rows", "until", "guard", "jobs", "trace", "job"] ["plan", "rows", "until", "guard"] (defScope s_played) := ⟨rfl, rfl, rfl, by decide +kernel, rfl, by decide +kernel, by decide +kernel⟩
/- slots: 0=plan 1=rows 2=until 3=guard 4=jobs 5=trace 6=job -/
theorem ok_played (F : FunD K "played" "played" (defArgs s_played) (defBody s_played) (defScope s_played) [] [("guard", .bl true)] f fd) (T : Txt K mg c) (G_jobs_in : Gf P w K mg base 3 "jobs_in" ["plan", "rows"] [] (spJobsIn K c)) (G_worked : Gf P w K mg base 5 "worked" ["jobs", "until", "guard"] [] (spWorked K c))
    (G_told_of : Gf P w K mg base 1 "told_of" ["job"] [] (Pure (R_told K c))) : FnOk P w K mg base CX0 6 f fd ["plan", "rows", "until", "guard"] (Pure (R_played K c)) := by
  refine pureD_ok F sc_played (fun B vs P' ⟨v, u, ts, rows, til, g, h, _⟩ => by rw [h]; rfl) fun cdv A outer s H0 E hr => ?_
  refine ⟨_, (pss_cons (ps_set (i := 4) sc_played.nd rfl (by first | exact Or.inl rfl | exact Or.inr rfl) (pe_g G_jobs_in (hr.mono (by decide)) (by rfl) (pa_cons (pv 0) (pa_cons (pv 1) pa_nil))))
        (pss_cons (ps_set (i := 5) sc_played.nd rfl (by first | exact Or.inl rfl | exact Or.inr rfl) (pe_g G_worked (hr.mono (by decide)) (by rfl) (pa_cons (pv 4) (pa_cons (pv 2) (pa_cons (pv 3) pa_nil)))))
        (pss_one (ps_ret (pe_tup (pa_cons (pe_lc (own := [("job", 6)]) rfl sc_played.nd (pi_list (pv 4)) (blkOk_by (N := ["plan", "rows", "until", "guard", "jobs", "trace", "job"]) (sc := defScope s_played) (by decide +kernel)) (fun _ _ _ _ _ => (pg_name (i := 6) sc_played.nd rfl (by first | exact Or.inl rfl | exact Or.inr rfl))) (fun _ _ _ _ _ => pts_nil) (fun _ _ _ _ _ => (pe_g G_told_of (hr.mono (by decide)) (by rfl) (pa_cons (pv 6) pa_nil)))) (pa_cons (pv 5) pa_nil))))))), fun B vs P' ⟨v, u, ts, rows, til, g, hv, hp, hsec, hrows, hl, hall, G, hP⟩ => ?_⟩
  subst hv hP
  refine fun H bh D r n => ?_
  refine q_callV bh.r (evas_cons (evv_var (i := 0) rfl) (evas_cons (evv_var (i := 1) rfl) eva_nil)) fun H1 e1 => ?_
  have g1 : Grow B H B H1 := (Grow.refl bh).ext e1
  refine ⟨B, v, u, ts, rows, rfl, g1.bh, hp, hsec, hrows, by omega, hall, fun l ps B2 H2 g2 hl2 cs2 => ?_⟩
  refine q_callV g2.bh.r (evas_cons (evv_var (i := 4) rfl) (evas_cons (evv_var (i := 2) rfl) (evas_cons (evv_var (i := 3) rfl) eva_nil))) fun H3 e3 => ?_
  refine ⟨B, H1, B2, l, ps, rows.map (jobOf ts), til, g, rfl, g2.ext e3, hl2, cs2.ext e3, G, by rw [List.length_map]; omega, fun ws tv B4 H4 st nlt g4 e4 cs4 htr => ?_⟩
  obtain ⟨B5, g5, e5, it5⟩ := freeze_all g4 cs4
  have gA : Grow B H B5 H4 := g1.trans g5
  have hjobs : LsOf K (JobAt K c) ws.js B5 (.ref l) := ⟨l, _, rfl, (e4.trans e5).at_ _ _ hl2 po_lst.1, it5⟩
  have jlen : ws.js.length = ps.length := (Paired.length cs4.at_).symm
  have plen : ps.length = rows.length := by rw [Paired.length cs2.at_, List.length_map]
  refine (evp_tup (K := K) (A := ConsP (LsOf K (DR K toldD) ws.js) (ConsP (LsOf K (DR K st4D) ws.tr) (Iss []))) (eva_cons (P := LsOf K (DR K toldD) ws.js) (EvP.imp (evp_lcA (K := K) (R := JobAt K c) (S := DR K toldD) (fun j : Jb => j) (evi_list (evp_var (i := 4) rfl hjobs)) (by omega) fun B' x a e ha hx => ⟨_, evg_name, rfl, ?_⟩) fun _ _ _ h => by rw [List.map_id'] at h; exact h) fun B' e => eva_cons (P := LsOf K (DR K st4D) ws.tr) (evp_var (i := 5) rfl (Mono.up (P := LsOf K (DR K st4D) ws.tr) (e5.trans e) htr)) fun B'' e' => eva_nil) fun B' vs ⟨a, r1, h1, _, ⟨b, r2, h2, _, h3⟩⟩ => by cases h3; subst h1 h2; exact (by decide : 2 ≤ sizeLine)) H4 g5.bh _ fun rv B6 H6 g6 hv6 => r rv B6 H6 (gA.trans g6) ⟨ws, st, nlt, hv6⟩
  exact evp_call (evas_cons (evv_var (i := 6) rfl) eva_nil) fun B2 vs e2 hvs => by
    cases hvs
    exact ⟨x, a, rfl, MonoR.up (R := JobAt K c) e2 hx, rfl⟩
end
end K7

set_option Elab.async false
set_option linter.all false
set_option maxRecDepth 100000
set_option maxHeartbeats 4000000
namespace K7
open PySem PySem.Spec PySem.W L2 Pw
open PyProof.Rows hiding St
open Evl (sq_of st_of)
variable [Tbs]
/-! ### eras -/
abbrev W4 : Type := Int × Str × Int × Int
def w4D (q : W4) : PyData := .tuple [.int q.1, .str q.2.1, .int q.2.2.1, .int q.2.2.2]
def hasT (ts : List TaskD) (n : Str) : Bool := inV (.str n) (((byRank ts).map (·.name)).map V.str)
def ownOf (ts : List TaskD) (ws : List W4) : List W4 := srt w4D (ws.filter fun q => hasT ts q.2.1)
def strangeOf (ts : List TaskD) (ws : List W4) : List W4 := srt w4D (ws.filter fun q => !hasT ts q.2.1)
def eraF (mv ov sv : V) : List (Str × V) := [("model", mv), ("own", ov), ("strange", sv)]
def EraIs (K : PySem.W.Frag) (c : Cs) (ts : List TaskD) (own strange : List W4) : Hp → List (Str × V) → Prop := fun B fs => ∃ mv ov sv, fs = eraF mv ov sv ∧ PlanAt K c B mv ts ∧ LsOf K (DR K w4D) own B ov ∧ LsOf K (DR K w4D) strange B sv
def EraAt (K : PySem.W.Frag) (c : Cs) (B : Hp) (v : V) (ts : List TaskD) (own strange : List W4) : Prop := ∃ a dx fs, v = .ref a ∧ B a = some (.ins c.Era dx fs) ∧ EraIs K c ts own strange B fs
theorem EraAt.up {K : PySem.W.Frag} {c : Cs} {B B' : Hp} {v : V} {ts : List TaskD} {own strange : List W4} (e : Ex B B') (h : EraAt K c B v ts own strange) : EraAt K c B' v ts own strange := by
  obtain ⟨a, dx, fs, h1, h2, mv, ov, sv, h3, h4, h5, h6⟩ := h
  exact ⟨a, dx, fs, h1, e _ _ h2, mv, ov, sv, h3, MonoR.up (R := PlanAt K c) e h4, Mono.up (P := LsOf K (DR K w4D) own) e h5, Mono.up (P := LsOf K (DR K w4D) strange) e h6⟩
def R_Era (K : PySem.W.Frag) (c : Cs) : Hp → List V → (Hp → List (Str × V) → Prop) → Prop := fun B us P => ∃ (v u : V) (ts : List TaskD) (ws : List W4), us = [v, u] ∧ PlanAt K c B v ts ∧ ts.length ≤ 60 ∧ LsOf K (DR K w4D) ws B u ∧ ws.length ≤ 10000 ∧ P = EraIs K c ts (ownOf ts ws) (strangeOf ts ws)
def R_eraUnknown (K : PySem.W.Frag) (c : Cs) : Hp → List V → (Hp → V → Prop) → Prop := fun B vs P => ∃ (v : V) (til : Int) (ts : List TaskD) (own strange : List W4), vs = [v, .int til] ∧ EraAt K c B v ts own strange ∧ strange.length ≤ 10000 ∧ P = LsOf K (DR K wD) ((strange.filter fun q => decide (q.1 < til)).map fun q => (q.2.2.2, q.2.1, q.2.2.1))
theorem alike_w4 (ps : List W4) : AllAlike (ps.map w4D) := AllAlike.of fun a b => by simp [w4D, alike, alikeAll]
theorem sortable_w4 (ps : List W4) : Sortable (ps.map w4D) := Sortable.tuples fun b => ⟨_, _, rfl⟩
theorem depth_w4 (p : W4) : (w4D p).depth ≤ 50 := by simp [w4D, PyData.depth, PyData.depthAll]
section
variable {P : Program} {w : World} {K : PySem.W.Frag} {mg : Str → Option Value} {base : Heap} {c : Cs} {f : Addr} {fd : FuncData}
abbrev s_Era_init : Stmt := inClass (top 23) 0
theorem sc_Era_init : FnScope ["self", "plan", "wishes", "names", "one", "wish"] ["self", "plan", "wishes"] (defScope s_Era_init) := ⟨rfl, rfl, rfl, by decide +kernel, rfl, by decide +kernel, by decide +kernel⟩
/- slots: 0=self 1=plan 2=wishes 3=names 4=one 5=wish -/
theorem ok_Era_init (F : Fun K "__init__" "Era.__init__" s_Era_init f fd) (T : Txt K mg c) (G_Plan_tasks : Gm P w K mg base 1 c.Plan "tasks" ["self"] [] (Pure (R_planTasks K c))) : FnOk P w K mg base CX0 2 f fd ["self", "plan", "wishes"] (Ctor c.Era (R_Era K c)) := by
  refine sp_ok F sc_Era_init (fun vs H Q E ⟨x, dx, us, B, P', h, _, _, _, ⟨v, u, ts, ws, h2, _⟩, _⟩ => by rw [h, h2]; rfl) fun cdv A outer s H0 E hr => ?_
  refine ⟨_, (pss_cons (ps_fld (pv 0) (pv 1) rfl)
        (pss_cons (ps_set (i := 3) sc_Era_init.nd rfl (by first | exact Or.inl rfl | exact Or.inr rfl) (pe_lc (own := [("one", 4)]) rfl sc_Era_init.nd (pi_list (pe_gm0 (pv 1) T.c_Plan G_Plan_tasks (hr.mono (by decide)))) (blkOk_by (N := ["self", "plan", "wishes", "names", "one", "wish"]) (sc := defScope s_Era_init) (by decide +kernel)) (fun _ _ _ _ _ => (pg_name (i := 4) sc_Era_init.nd rfl (by first | exact Or.inl rfl | exact Or.inr rfl))) (fun _ _ _ _ _ => pts_nil) (fun _ _ _ _ _ => (pe_fldK (K := K) rfl (pv 4) rfl))))
        (pss_cons (ps_fld (pv 0) (pe_callB (call_sortedDat hr.units) (by rfl) T.b_sorted (by decide +kernel) (pa_cons (pe_lc (own := [("wish", 5)]) rfl sc_Era_init.nd (pi_list (pv 2)) (blkOk_by (N := ["self", "plan", "wishes", "names", "one", "wish"]) (sc := defScope s_Era_init) (by decide +kernel)) (fun _ _ _ _ _ => (pg_name (i := 5) sc_Era_init.nd rfl (by first | exact Or.inl rfl | exact Or.inr rfl))) (fun _ _ _ _ _ => pts_one (pt_cmpR (op_in_seqK (K := K) rfl) (pe_ix (ix_tupK (K := K) rfl) (pv 5) pe_int (fun _ _ => rfl)) (pv 3) (by rfl))) (fun _ _ _ _ _ => (pv 5))) pa_nil)) rfl)
        (pss_one (ps_fld (pv 0) (pe_callB (call_sortedDat hr.units) (by rfl) T.b_sorted (by decide +kernel) (pa_cons (pe_lc (own := [("wish", 5)]) rfl sc_Era_init.nd (pi_list (pv 2)) (blkOk_by (N := ["self", "plan", "wishes", "names", "one", "wish"]) (sc := defScope s_Era_init) (by decide +kernel)) (fun _ _ _ _ _ => (pg_name (i := 5) sc_Era_init.nd rfl (by first | exact Or.inl rfl | exact Or.inr rfl))) (fun _ _ _ _ _ => pts_one (pt_cmpR (op_notIn_seqK (K := K) rfl) (pe_ix (ix_tupK (K := K) rfl) (pv 5) pe_int (fun _ _ => rfl)) (pv 3) (by rfl))) (fun _ _ _ _ _ => (pv 5))) pa_nil)) rfl))))), fun vs H Q E' ⟨x, dx, us, B, P', hv, bh, hx, nb, ⟨v, u, ts, ws, h2, hp, hl, hw, hwl, hP⟩, k⟩ => ?_⟩
  subst hv h2 hP
  obtain ⟨g0, c0⟩ := ctor_start bh hx nb
  refine q_fld g0 c0 rfl T.c_Era T.n_Era_model (by show 0 < 1000; decide) (evv_var (i := 1) rfl) fun w1 B1 H1 e1 g1 c1 p1 => ?_
  cases p1
  refine q_asg (Pv := IsL K (Iss (((byRank ts).map (·.name)).map V.str))) g1 (EvP.imp (evp_lcA (K := K) (R := TaskAt K c) (S := VR fun t : TaskD => V.str t.name) (fun t => t) (evi_list (ev_tasks (evv_var rfl) (MonoR.up (R := PlanAt K c) e1 hp))) (by rw [(byRank_perm ts).length_eq]; omega) fun B' x a e ha hx => ⟨_, evg_name, rfl, tk_name T rfl hx⟩)
    fun B' v _ ⟨p, xs, h1, h2, h3⟩ => ⟨p, xs, h1, h2, by rw [items_vals h3, List.map_id', List.map_map]; rfl⟩) fun nv B2 H2 g2 g2' hn => ?_
  have c2 := c1.grow g2'
  have test : ∀ (neg : Bool) (B' : Hp) (σ' : L2.St) (y : V) (q : W4), Ex B2 B' → DR K w4D B' y q → σ'[5]? = some (some y) → σ'[3]? = some (some nv) → EvV (tOp (rIn K neg) (tOp (rIxT K) (tVar 5) (tC (.int 1))) (tVar 3)) σ' B' (.bl (if neg then !hasT ts q.2.1 else hasT ts q.2.1)) := fun neg B' σ' y q e hy h5 h3 =>
    evv_in (EvP.imp (evd_ixT (n := 1) (evp_var (P := fun B w => Dp K B w (w4D q)) h5 hy) evv_c rfl) fun _ _ _ h => by cases h; rfl) (evp_var h3 (Mono.up (P := IsL K (Iss (((byRank ts).map (·.name)).map V.str))) e hn)) rfl (flat_strs _)
  have filt : ∀ (neg : Bool) (Bx : Hp), Ex B2 Bx → EvP (tCB (rSortedD K) (tCons (tLc (iList K (tVar 2)) (gName 5) (tTest (tOp (rIn K neg) (tOp (rIxT K) (tVar 5) (tC (.int 1))) (tVar 3))) (tVar 5) [5]) tNil)) [some (.ref x), some v, some u, some nv, none, none] Bx (LsOf K (DR K w4D) (srt w4D (ws.filter fun q => if neg then !hasT ts q.2.1 else hasT ts q.2.1))) := fun neg Bx ex => by
    refine evp_sorted (EvP.imp (evp_lcI (K := K) (R := DR K w4D) (S := DR K w4D) (fun q : W4 => if neg then !hasT ts q.2.1 else hasT ts q.2.1) (fun q : W4 => q) (evi_list (evp_var (i := 2) rfl (Mono.up (P := LsOf K (DR K w4D) ws) ((e1.trans g2'.b).trans ex) hw))) (by omega) fun B' y q e hq hy => ⟨_, evg_name, rfl, evt_test (test neg B' _ y q (ex.trans e) hy rfl rfl), fun _ => evp_var rfl hy⟩) fun _ _ _ h => by rw [List.map_id'] at h; exact h) (alike_w4 _) (sortable_w4 _) (Nat.le_trans (List.length_filter_le _ _) (by omega)) fun b _ => depth_w4 b
  refine q_fld g2 c2 rfl T.c_Era T.n_Era_own (by show 1 < 1000; decide) (filt false B2 (.refl g2.bh.l)) fun ov B3 H3 e3 g3 c3 p3 => ?_
  refine s_fld (D := { nx := fun _ H' => Q .non H', rt := Q }) g3 c3 rfl T.c_Era T.n_Era_strange (by show 2 < 1000; decide) (filt true B3 e3) fun sv B4 H4 _ gg c4 g4 p4 => ?_
  have e4 := Ex.new (o := .ins c.Era dx (eraF v ov sv)) g4.bh.l c4.nb
  exact k _ _ (g4.freeze c4) ⟨_, upd_same, v, ov, sv, rfl, MonoR.up (R := PlanAt K c) ((((e1.trans g2'.b).trans e3).trans gg.b).trans e4) hp, Mono.up (P := LsOf K (DR K w4D) _) (gg.b.trans e4) p3, Mono.up (P := LsOf K (DR K w4D) _) e4 p4⟩
abbrev s_Era_unknown : Stmt := inClass (top 23) 2
theorem sc_Era_unknown : FnScope ["self", "until", "hour", "task", "work", "asked"] ["self", "until"] (defScope s_Era_unknown) := ⟨rfl, rfl, rfl, by decide +kernel, rfl, by decide +kernel, by decide +kernel⟩
/- slots: 0=self 1=until 2=hour 3=task 4=work 5=asked -/
theorem ok_Era_unknown (F : Fun K "unknown" "Era.unknown" s_Era_unknown f fd) (T : Txt K mg c) : FnOk P w K mg base CX0 1 f fd ["self", "until"] (Pure (R_eraUnknown K c)) := by
  refine pure_ok F sc_Era_unknown (fun B vs P' ⟨v, til, ts, own, strange, h, _⟩ => by rw [h]; rfl) fun cdv A outer s H0 E hr => ?_
  refine ⟨_, (pss_one (ps_ret (pe_lc (own := [("hour", 2), ("task", 3), ("work", 4), ("asked", 5)]) rfl sc_Era_unknown.nd (pi_list (pe_fld (pv 0) rfl)) (blkOk_by (N := ["self", "until", "hour", "task", "work", "asked"]) (sc := defScope s_Era_unknown) (by decide +kernel)) (fun _ _ _ _ _ => (pg_tupK (K := K) (n := 4) rfl (by rfl) (pgs_cons (pg_name (i := 2) sc_Era_unknown.nd rfl (by first | exact Or.inl rfl | exact Or.inr rfl)) (pgs_cons (pg_name (i := 3) sc_Era_unknown.nd rfl (by first | exact Or.inl rfl | exact Or.inr rfl)) (pgs_cons (pg_name (i := 4) sc_Era_unknown.nd rfl (by first | exact Or.inl rfl | exact Or.inr rfl)) (pgs_cons (pg_name (i := 5) sc_Era_unknown.nd rfl (by first | exact Or.inl rfl | exact Or.inr rfl)) pgs_nil)))))) (fun _ _ _ _ _ => pts_one (pt_cmpR op_lt (pv 2) (pv 1) (nomark _))) (fun _ _ _ _ _ => (pe_tup (pa_cons (pv 5) (pa_cons (pv 3) (pa_cons (pv 4) pa_nil)))))))), fun B vs P' ⟨v, til, ts, own, strange, hv, ⟨a, dx, fs, hav, ha, mv, ov, sv, hfs, h1, h2, h3⟩, hl, hP⟩ => ?_⟩
  subst hav hfs
  subst hv hP
  refine evs_ret (evp_lcI (K := K) (R := DR K w4D) (S := DR K wD) (fun q : W4 => decide (q.1 < til)) (fun q : W4 => (q.2.2.2, q.2.1, q.2.2.1)) (evi_list (evp_fld (P := LsOf K (DR K w4D) strange) (evv_var (i := 0) rfl) ha T.c_Era T.n_Era_strange rfl h3)) (by omega) fun B' x q e hq hx => ?_)
  obtain ⟨px, rfl, sx⟩ := dp_tup [.int q.1, .str q.2.1, .int q.2.2.1, .int q.2.2.2] hx
  exact ⟨_, evg_tup sx rfl (evgs_cons evg_name (evgs_cons evg_name (evgs_cons evg_name (evgs_cons evg_name evgs_nil)))), rfl, evt_test (evv_I0 (evv_var rfl) (evv_var rfl)), fun _ => evd_tup (K := K) (ds := [.int q.2.2.2, .str q.2.1, .int q.2.2.1]) (evds_cons (evd_int (evv_var rfl)) (evds_cons (evd_str (evv_var rfl)) (evds_cons (evd_int (evv_var rfl)) evds_nil))) (by simp)⟩
end
end K7

set_option Elab.async false
set_option linter.all false
set_option maxRecDepth 100000
set_option maxHeartbeats 2000000
namespace Pw
open PySem PySem.Spec PySem.W L2
open PyProof.Rows hiding St
open Evl (sq_of st_of)
variable [Tbs]
/-! ### 26. zip(l, m, strict=True): what is wanted of it (the rule itself is to be proved: ZipRule) -/
def ItzS (K : PySem.W.Frag) (a b : Addr) : It := ⟨(Itz K a b).go, (Itz K a b).yld, fun i H => ∃ xs ys : List V, SqL K H a xs ∧ SqL K H b ys ∧ xs.length ≤ i ∧ ys.length ≤ i⟩
def iZipS (K : PySem.W.Frag) (ta : TA) : TI := fun σ H R => ta σ H fun vs H1 => ∃ a b xs ys, vs = [.ref a, .ref b] ∧ SqL K H1 a xs ∧ SqL K H1 b ys ∧ R (ItzS K a b) H1
def ZipRule : Prop := ∀ (X : Cx) (x y : Str) (p p1 p2 pos tpos kp vp : Pos) (ta : TA) (elts : List Expr) (kk kz : Nat), X.calm = true → Gl X "zip" → X.mg "zip" = none → PA X [.Name x p1, .Name y p2] ta → PI X (.Tuple elts kk tpos) (.Call (.Name "zip" p) [.Name x p1, .Name y p2] [⟨some "strict", .Constant (.bool true) kz vp, kp⟩] pos) (iZipS X.K ta)
theorem pi_zipS {X : Cx} {x y : Str} {p p1 p2 pos tpos kp vp : Pos} {ta : TA} {elts : List Expr} {kk kz : Nat} (Z : ZipRule) (hc : X.calm = true) (hg : Gl X "zip") (hm : X.mg "zip" = none) (ha : PA X [.Name x p1, .Name y p2] ta) : PI X (.Tuple elts kk tpos) (.Call (.Name "zip" p) [.Name x p1, .Name y p2] [⟨some "strict", .Constant (.bool true) kz vp, kp⟩] pos) (iZipS X.K ta) := Z X x y p p1 p2 pos tpos kp vp ta elts kk kz hc hg hm ha
section
variable {α β : Type} {K : PySem.W.Frag} {R : Rl α} {S : Rl β} {as : List α} {bs : List β} {tl tm : TE} {σ : L2.St} {B : Hp}
theorem evi_zipS [MonoR R] [MonoR S] (h : EvP tl σ B (LsOf K R as)) (h2 : EvP tm σ B (LsOf K S bs)) (same : as.length = bs.length) : EvI (iZipS K (tCons tl (tCons tm tNil))) σ B (ZiR K R S) (as.zip bs) := fun H bh Rk k => h H bh _ fun v B1 H1 g ⟨a, xs, e, sa, ia⟩ => h2.mono g.b H1 g.bh _ fun v2 B2 H2 g2 ⟨b, ys, e2, sb, ib⟩ => by
  subst e e2
  have lx : xs.length = as.length := Paired.length ia
  have ly : ys.length = bs.length := Paired.length ib
  have sx : ∀ {Hx}, Ex B2 Hx → SqL K Hx a xs := fun x => ex_l (g2.b.trans x) (sq_of sa)
  have sy : ∀ {Hx}, Ex B2 Hx → SqL K Hx b ys := fun x => ex_l x (sq_of sb)
  have both : ∀ i (q : α × β), (as.zip bs)[i]? = some q → as[i]? = some q.1 ∧ bs[i]? = some q.2 := fun i q hq => List.getElem?_zip_eq_some.mp hq
  refine ⟨a, b, xs, ys, rfl, sx g2.bh, sy g2.bh, k (ItzS K a b) B2 H2 (g.trans g2) ⟨fun Hx x => ⟨xs, ys, sx x, sy x, by rw [lx, List.length_zip]; omega, by rw [ly, List.length_zip]; omega⟩, fun i q Hx x hi => ?_, fun i q Hx v Hy x hi yl B3 e3 b3 => ?_⟩⟩
  · obtain ⟨u, hu, _⟩ := paired_get' ia (both i q hi).1
    obtain ⟨u2, hu2, _⟩ := paired_get' ib (both i q hi).2
    exact ⟨xs, ys, u, u2, sx x, sy x, hu, hu2⟩
  · obtain ⟨u, hu, ru⟩ := paired_get' ia (both i q hi).1
    obtain ⟨u2, hu2, ru2⟩ := paired_get' ib (both i q hi).2
    obtain ⟨T, w, w2, hv, fresh, made, px, py⟩ := yl
    subst made
    have c1 := px xs (sx x)
    rw [hu] at c1
    cases c1
    have c2 := py ys (sy x)
    rw [hu2] at c2
    cases c2
    have eT := Ex.new (o := .tup [u, u2]) b3.l (ex_none b3 fresh)
    exact ⟨_, (Grow.refl b3).laid fresh, T, u, u2, hv, st_of upd_same, MonoR.up (g2.b.trans (e3.trans eT)) ru, MonoR.up (e3.trans eT) ru2⟩
end
end Pw

set_option Elab.async false
set_option linter.all false
set_option maxRecDepth 100000
set_option maxHeartbeats 4000000
namespace K7
open PySem PySem.Spec PySem.W L2 Pw
open PyProof.Rows hiding St
open Evl (sq_of st_of)
variable [Tbs]
/-! ### what an era lets in -/
abbrev W3i : Type := Int × Int × Int
def p3D (q : W3i) : PyData := .tuple [.int q.1, .int q.2.1, .int q.2.2]
def lD (q : JR × W4) : PyData := .tuple [jrD q.1, w4D q.2]
def mineOf (t : TaskD) (own : List W4) (til : Int) : List W3i := (own.filter fun q => decide (V.str q.2.1 = V.str t.name) && decide (q.1 < til)).map fun q => (q.1, q.2.2.1, q.2.2.2)
def rowsOf (ts : List TaskD) (t : TaskD) (own : List W4) (til : Int) : List JR := letIn ts true ((srt p3D (mineOf t own til)).map fun q => (q.1, t.name, q.2.1))
def letOf (ts : List TaskD) (own : List W4) (til : Int) : List (JR × W4) := (byRank ts).flatMap fun t => ((rowsOf ts t own til).zip (srt p3D (mineOf t own til))).map fun q => (q.1, (q.2.1, t.name, q.2.2.1, q.2.2.2))
theorem srt_nil {β : Type} (enc : β → PyData) : srt enc ([] : List β) = [] := List.eq_nil_of_length_eq_zero (srt_len enc [])
theorem letIn_one {ts : List TaskD} {t : TaskD} {g : Bool} {ws : List W3} (nd : (ts.map (·.name)).Nodup) (ht : t ∈ ts) (hw : ∀ q ∈ ws, q.2.1 = t.name) : letIn ts g ws = jobsOf t g none 0 (srt pairD (ws.map fun q => (q.1, q.2.2))) := by
  have nd2 : ((byRank ts).map (·.name)).Nodup := ((byRank_perm ts).map _).nodup_iff.mpr nd
  have ht2 : t ∈ byRank ts := (byRank_perm ts).mem_iff.mpr ht
  have other : ∀ u : TaskD, u.name ≠ t.name → mine u.name ws = [] := fun u hu => by
    unfold mine
    rw [List.filter_eq_nil_iff.mpr]
    · rfl
    · intro q hq
      simp only [decide_eq_true_eq, V.str.injEq]
      rw [hw q hq]
      exact fun e => hu e.symm
  have same : mine t.name ws = ws.map fun q => (q.1, q.2.2) := by
    unfold mine
    rw [List.filter_eq_self.mpr]
    intro q hq
    simp [hw q hq]
  have none_ : ∀ us : List TaskD, (∀ u ∈ us, u.name ≠ t.name) → (us.flatMap fun u => jobsOf u g none 0 (srt pairD (mine u.name ws))) = [] := fun us hu => by
    induction us with
    | nil => rfl
    | cons a r ih =>
      rw [List.flatMap_cons, other a (hu a List.mem_cons_self), ih fun u m => hu u (List.mem_cons_of_mem _ m), srt_nil]
      rfl
  unfold letIn
  revert nd2 ht2
  generalize byRank ts = us
  intro nd2 ht2
  induction us with
  | nil => cases ht2
  | cons a r ih =>
    rw [List.map_cons, List.nodup_cons] at nd2
    rw [List.flatMap_cons]
    rcases List.mem_cons.mp ht2 with z | z
    · subst z
      rw [none_ r fun u m e => nd2.1 (List.mem_map.mpr ⟨u, m, e⟩), List.append_nil, same]
    · have na : a.name ≠ t.name := fun e => nd2.1 (List.mem_map.mpr ⟨t, z, e.symm⟩)
      rw [other a na, ih nd2.2 z, srt_nil]
      rfl
theorem rowsOf_len {ts : List TaskD} {t : TaskD} {own : List W4} {til : Int} (nd : (ts.map (·.name)).Nodup) (ht : t ∈ ts) : (rowsOf ts t own til).length = (srt p3D (mineOf t own til)).length := by
  unfold rowsOf
  rw [letIn_one nd ht fun q hq => by obtain ⟨z, _, rfl⟩ := List.mem_map.mp hq; rfl, jobsOf_len, srt_len, List.length_map, List.length_map]
theorem mineOf_len (t : TaskD) (own : List W4) (til : Int) : (mineOf t own til).length ≤ own.length := by
  unfold mineOf
  rw [List.length_map]
  exact List.length_filter_le _ _
theorem alike_p3 (ps : List W3i) : AllAlike (ps.map p3D) := AllAlike.of fun a b => by simp [p3D, alike, alikeAll]
theorem sortable_p3 (ps : List W3i) : Sortable (ps.map p3D) := Sortable.tuples fun b => ⟨_, _, rfl⟩
theorem depth_p3 (p : W3i) : (p3D p).depth ≤ 50 := by simp [p3D, PyData.depth, PyData.depthAll]
def R_eraLet (K : PySem.W.Frag) (c : Cs) : Hp → List V → (Hp → V → Prop) → Prop := fun B vs P => ∃ (v : V) (til : Int) (ts : List TaskD) (own strange : List W4), vs = [v, .int til] ∧ EraAt K c B v ts own strange ∧ Unlike ts ∧ own.length ≤ 10000 ∧ (∀ q ∈ own, 1 ≤ q.2.2.1) ∧ P = LsOf K (DR K lD) (letOf ts own til)
section
variable {P : Program} {w : World} {K : PySem.W.Frag} {mg : Str → Option Value} {base : Heap} {c : Cs} {f : Addr} {fd : FuncData}
abbrev s_Era_let : Stmt := inClass (top 23) 1
theorem sc_Era_let : FnScope ["self", "until", "found", "task", "hour", "work", "asked", "mine", "rows", "row", "name"] ["self", "until"] (defScope s_Era_let) := ⟨rfl, rfl, rfl, by decide +kernel, rfl, by decide +kernel, by decide +kernel⟩
/- slots: 0=self 1=until 2=found 3=task 4=hour 5=work 6=asked 7=mine 8=rows 9=row 10=name -/
theorem ok_Era_let (F : Fun K "let" "Era.let" s_Era_let f fd) (T : Txt K mg c) (Z : ZipRule) (G_Plan_tasks : Gm P w K mg base 1 c.Plan "tasks" ["self"] [] (Pure (R_planTasks K c))) (G_let_in : Gf P w K mg base 3 "let_in" ["plan", "wishes", "gate"] [.bl true] (Pure (R_letIn K c))) :
    FnOk P w K mg base CX0 4 f fd ["self", "until"] (Pure (R_eraLet K c)) := by
  refine pure_ok F sc_Era_let (fun B vs P' ⟨v, til, ts, own, strange, h, _⟩ => by rw [h]; rfl) fun cdv A outer s H0 E hr => ?_
  refine ⟨_, (pss_cons (ps_set (i := 2) sc_Era_let.nd rfl (by first | exact Or.inl rfl | exact Or.inr rfl) (pe_lst pa_nil))
        (pss_cons (ps_for PassesOwn.never rfl (pi_list (pe_gm0 (pe_fld (pv 0) rfl) T.c_Plan G_Plan_tasks (hr.mono (by decide)))) (pg_name (i := 3) sc_Era_let.nd rfl (by first | exact Or.inl rfl | exact Or.inr rfl))
        (pss_cons (ps_setLc (i := 7) (own := [("hour", 4), ("name", 10), ("work", 5), ("asked", 6)]) rfl sc_Era_let.nd rfl rfl (sw_true rfl rfl rfl (by decide +kernel)) (pi_list (pe_fld (pv 0) rfl)) (blkOk_by (N := ["self", "until", "found", "task", "hour", "work", "asked", "mine", "rows", "row", "name"]) (sc := defScope s_Era_let) (by decide +kernel)) (fun _ _ _ _ _ => (pg_tupK (K := K) (n := 4) rfl (by rfl) (pgs_cons (pg_name (i := 4) sc_Era_let.nd rfl (by first | exact Or.inl rfl | exact Or.inr rfl)) (pgs_cons (pg_name (i := 10) sc_Era_let.nd rfl (by first | exact Or.inl rfl | exact Or.inr rfl)) (pgs_cons (pg_name (i := 5) sc_Era_let.nd rfl (by first | exact Or.inl rfl | exact Or.inr rfl)) (pgs_cons (pg_name (i := 6) sc_Era_let.nd rfl (by first | exact Or.inl rfl | exact Or.inr rfl)) pgs_nil)))))) (fun _ _ _ _ _ => pts_one (PW.pt (pw_and (pt_cmpR op_eq (pv 10) (pe_fldK (K := K) rfl (pv 3) rfl) (nomark _)) (pw_and1 (pt_cmpR op_lt (pv 4) (pv 1) (nomark _)))))) (fun _ _ _ _ _ => (pe_tup (pa_cons (pv 4) (pa_cons (pv 5) (pa_cons (pv 6) pa_nil))))))
        (pss_cons (ps_set (i := 7) sc_Era_let.nd rfl (by first | exact Or.inl rfl | exact Or.inr rfl) (pe_callB (call_sortedDat hr.units) (by rfl) T.b_sorted (by decide +kernel) (pa_cons (pv 7) pa_nil)))
        (pss_cons (ps_set (i := 8) sc_Era_let.nd rfl (by first | exact Or.inl rfl | exact Or.inr rfl) (pe_g G_let_in (hr.mono (by decide)) (by rfl) (pa_cons (pe_fld (pv 0) rfl) (pa_cons (pe_lc (own := [("hour", 4), ("work", 5), ("asked", 6)]) rfl sc_Era_let.nd (pi_list (pv 7)) (blkOk_by (N := ["self", "until", "found", "task", "hour", "work", "asked", "mine", "rows", "row", "name"]) (sc := defScope s_Era_let) (by decide +kernel)) (fun _ _ _ _ _ => (pg_tupK (K := K) (n := 3) rfl (by rfl) (pgs_cons (pg_name (i := 4) sc_Era_let.nd rfl (by first | exact Or.inl rfl | exact Or.inr rfl)) (pgs_cons (pg_name (i := 5) sc_Era_let.nd rfl (by first | exact Or.inl rfl | exact Or.inr rfl)) (pgs_cons (pg_name (i := 6) sc_Era_let.nd rfl (by first | exact Or.inl rfl | exact Or.inr rfl)) pgs_nil))))) (fun _ _ _ _ _ => pts_nil) (fun _ _ _ _ _ => (pe_tup (pa_cons (pv 4) (pa_cons (pe_fldK (K := K) rfl (pv 3) rfl) (pa_cons (pv 5) pa_nil)))))) pa_nil))))
        (pss_one (ps_for PassesOwn.never rfl (pi_zipS Z rfl (by rfl) T.b_zip (pa_cons (pv 8) (pa_cons (pv 7) pa_nil))) (pg_tup (by rfl) (pgs_cons (pg_name (i := 9) sc_Era_let.nd rfl (by first | exact Or.inl rfl | exact Or.inr rfl)) (pgs_cons (pg_tup (by rfl) (pgs_cons (pg_name (i := 4) sc_Era_let.nd rfl (by first | exact Or.inl rfl | exact Or.inr rfl)) (pgs_cons (pg_name (i := 5) sc_Era_let.nd rfl (by first | exact Or.inl rfl | exact Or.inr rfl)) (pgs_cons (pg_name (i := 6) sc_Era_let.nd rfl (by first | exact Or.inl rfl | exact Or.inr rfl)) pgs_nil)))) pgs_nil)))
        (pss_one (ps_expr (pe_bm PySem.F.plainAttrs_list PySem.F.slot_list_append PySem.F.type_list_append mt_append (pv 2) (pa_cons (pe_tup (pa_cons (pv 9) (pa_cons (pe_tup (pa_cons (pv 4) (pa_cons (pe_fld (pv 3) rfl) (pa_cons (pv 5) (pa_cons (pv 6) pa_nil))))) pa_nil))) pa_nil))))))))))
        (pss_one (ps_ret (pv 2))))), fun B vs P' ⟨v, til, ts, own, strange, hv, ⟨a, dx, fs, hav, ha, mv, ov, sv, hfs, hp, hown, hstr⟩, U, hol, hwk, hP⟩ => ?_⟩
  subst hav hfs
  subst hv hP
  refine fun H bh D r n => q_newL (Grow.refl bh) fun l H1 hlf e1 g1 c1 => ?_
  have hmodel : ∀ (B' : Hp) (σ : L2.St), Ex B B' → σ[0]? = some (some (.ref a)) → EvV (tFld K (tVar 0) "model") σ B' mv := fun B' σ e hs => evv_fld (evv_var hs) (e _ _ ha) T.c_Era T.n_Era_model rfl
  refine q_forI (R := TaskAt K c) (evi_list (ev_tasks (hmodel B _ (.refl g1.bh.l) rfl) hp)) g1.bh (fun i σ' B' H' => ∃ ys done y3 y4 y5 y6 y7 y8 y9 y10, σ' = [some (.ref a), some (.int til), some (.ref l), y3, y4, y5, y6, y7, y8, y9, y10] ∧ Grow B H B' H' ∧ Cell H B' H' l (.lst ys) ∧
    Items (DR K lD) done B' ys ∧ done = ((byRank ts).take i).flatMap fun t => ((rowsOf ts t own til).zip (srt p3D (mineOf t own til))).map fun q => (q.1, (q.2.1, t.name, q.2.2.1, q.2.2.2))) (fun B3 H3 g3 => ⟨[], [], none, none, none, none, none, none, none, none, rfl, g1.trans g3, c1.grow g3, .nil, rfl⟩) ?_ ?_
  · rintro i t vt σ' B3 H3 B4 H4 e3 b3 hi ⟨ys, done, y3, y4, y5, y6, y7, y8, y9, y10, rfl, g3, c3, it3, hd3⟩ g4 ht
    have htm : t ∈ ts := (byRank_perm ts).mem_iff.mp (List.mem_of_getElem? hi)
    have e34 := e3.trans g4.b
    have g34 := g3.trans g4
    have c4 := c3.grow g4
    have it4 := Mono.up (P := Items (DR K lD) done) g4.b it3
    refine (evg_name (B := B4)) H4 g4.bh _ ?_
    -- mine
    refine q_asg (Pv := LsOf K (DR K p3D) (mineOf t own til)) g34 (by
      unfold mineOf
      refine evp_lcI (K := K) (R := DR K w4D) (S := DR K p3D) (fun q : W4 => decide (V.str q.2.1 = V.str t.name) && decide (q.1 < til)) (fun q : W4 => (q.1, q.2.2.1, q.2.2.2)) (evi_list (evp_fld (P := LsOf K (DR K w4D) own) (evv_var (i := 0) rfl) (e34 _ _ ha) T.c_Era T.n_Era_own rfl (Mono.up (P := LsOf K (DR K w4D) own) e34 hown))) (by omega) fun B5 x q e5 hq hx => ?_
      obtain ⟨px, rfl, sx⟩ := dp_tup [.int q.1, .str q.2.1, .int q.2.2.1, .int q.2.2.2] hx
      exact ⟨_, evg_tup sx rfl (evgs_cons evg_name (evgs_cons evg_name (evgs_cons evg_name (evgs_cons evg_name evgs_nil)))), rfl, evt_and (evt_test (evv_eq (evv_var rfl) (tk_name T rfl (MonoR.up e5 ht)) rfl)) fun _ => evt_test (evv_I0 (evv_var rfl) (evv_var rfl)), fun _ => evd_tup (K := K) (ds := [.int q.1, .int q.2.2.1, .int q.2.2.2]) (evds_cons (evd_int (evv_var rfl)) (evds_cons (evd_int (evv_var rfl)) (evds_cons (evd_int (evv_var rfl)) evds_nil))) (by simp)⟩) fun mv1 B5 H5 g5 g5' hm1 => ?_
    have c5 := c4.grow g5'
    have ml := mineOf_len t own til
    refine q_asg (Pv := LsOf K (DR K p3D) (srt p3D (mineOf t own til))) g5 (evp_sorted (evp_var (i := 7) rfl hm1) (alike_p3 _) (sortable_p3 _) (by omega) fun b _ => depth_p3 b) fun mv2 B6 H6 g6 g6' hm2 => ?_
    have c6 := c5.grow g6'
    have sl := srt_len p3D (mineOf t own til)
    have e46 : Ex B4 B6 := g5'.b.trans g6'.b
    -- rows
    refine q_asg (Pv := LsOf K (DR K jrD) (rowsOf ts t own til)) g6 (evp_callD (eva_cons (P := Is mv) (hmodel B6 _ (e34.trans e46) rfl) fun B7 e7 => eva_cons (P := LsOf K (DR K wD) ((srt p3D (mineOf t own til)).map fun q : W3i => (q.1, t.name, q.2.1))) (evp_lcA (K := K) (R := DR K p3D) (S := DR K wD) (fun q : W3i => (q.1, t.name, q.2.1)) (evi_list (evp_var (i := 7) rfl (Mono.up (P := LsOf K (DR K p3D) (srt p3D (mineOf t own til))) e7 hm2))) (by omega) fun B8 x q e8 hq hx => ?_) fun B8 e8 => eva_nil) fun B8 vs e8 ⟨x1, r1, h1, h2, ⟨x2, r2, h3, h4, h5⟩⟩ => ?_) fun rv B7 H7 g7 g7' hrv => ?_
    · obtain ⟨px, rfl, sx⟩ := dp_tup [.int q.1, .int q.2.1, .int q.2.2] hx
      exact ⟨_, evg_tup sx rfl (evgs_cons evg_name (evgs_cons evg_name (evgs_cons evg_name evgs_nil))), rfl, evd_tup (K := K) (ds := [.int q.1, .str t.name, .int q.2.1]) (evds_cons (evd_int (evv_var rfl)) (evds_cons (evd_str (tk_name T rfl (MonoR.up ((e46.trans e7).trans e8) ht))) (evds_cons (evd_int (evv_var rfl)) evds_nil))) (by simp)⟩
    · cases h5
      cases h2
      subst h1 h3
      refine ⟨mv, x2, ts, _, true, rfl, MonoR.up (R := PlanAt K c) ((e34.trans e46).trans e8) hp, U.len, h4, by rw [List.length_map]; omega, fun q hq => ?_, rfl⟩
      obtain ⟨z, hz, rfl⟩ := List.mem_map.mp hq
      refine ⟨⟨t, htm, rfl⟩, ?_⟩
      have hz2 : z ∈ mineOf t own til := (List.mergeSort_perm _ _).mem_iff.mp hz
      obtain ⟨q4, hq4, rfl⟩ := List.mem_map.mp hz2
      exact hwk q4 (List.mem_filter.mp hq4).1
    have c7 := c6.grow g7'
    have it7 := Mono.up (P := Items (DR K lD) done) (e46.trans g7'.b) it4
    have rl := rowsOf_len (own := own) (til := til) U.names htm
    have dl : done.length ≤ 600000 := by
      rw [hd3]
      refine Nat.le_trans (flat_len_le (m := 10000) fun u hu => ?_) (Nat.le_trans (Nat.mul_le_mul_right _ (Nat.le_trans (List.length_take_le' _ _) (by rw [(byRank_perm ts).length_eq]; exact U.len))) (by decide))
      rw [List.length_map, List.length_zip, srt_len]
      exact Nat.le_trans (Nat.min_le_right _ _) (Nat.le_trans (mineOf_len _ _ _) hol)
    refine s_forI (R := ZiR K (DR K jrD) (DR K p3D)) (evi_zipS (evp_var (i := 8) rfl hrv) (evp_var (i := 7) rfl (Mono.up (P := LsOf K (DR K p3D) (srt p3D (mineOf t own til))) g7'.b hm2)) rl) g7.bh
      (fun k σ' B' H' => ∃ ys2 y4 y5 y6 y9, σ' = [some (.ref a), some (.int til), some (.ref l), some vt, y4, y5, y6, some mv2, some rv, y9, y10] ∧ Grow B H B' H' ∧ Cell H B' H' l (.lst ys2) ∧ Items (DR K lD) (done ++ (((rowsOf ts t own til).zip (srt p3D (mineOf t own til))).take k).map fun q => (q.1, (q.2.1, t.name, q.2.2.1, q.2.2.2))) B' ys2)
      (fun B8 H8 g8 => ⟨ys, y4, y5, y6, y9, rfl, g7.trans g8, c7.grow g8, by rw [List.take_zero, List.map_nil, List.append_nil]; exact Mono.up (P := Items (DR K lD) done) g8.b it7⟩) ?_ ?_
    · rintro k q v' σ' B8 H8 B9 H9 e8 b8 hk ⟨ys2, z4, z5, z6, z9, rfl, g8, c8, it8⟩ g9 ⟨T', x, y, rfl, sT, hx, hy⟩
      obtain ⟨py, rfl, sy⟩ := dp_tup [.int q.2.1, .int q.2.2.1, .int q.2.2.2] hy
      have g89 := g8.trans g9
      have c9 := c8.grow g9
      have it9 := Mono.up (P := Items (DR K lD) _) g9.b it8
      have ht9 : TaskAt K c B9 vt t := MonoR.up ((((g5'.b.trans g6'.b).trans g7'.b).trans e8).trans g9.b) ht
      have yl : ys2.length ≤ 700000 := by
        rw [show ys2.length = _ from Paired.length it8, List.length_append, List.length_map, List.length_take, List.length_zip]
        omega
      refine evg_tup (B := B9) sT rfl (evgs_cons evg_name (evgs_cons (evg_tup sy rfl (evgs_cons evg_name (evgs_cons evg_name (evgs_cons evg_name evgs_nil)))) evgs_nil)) H9 g9.bh _ ?_
      refine s_app g89 c9 rfl (evd_tup (K := K) (ds := [jrD q.1, w4D (q.2.1, t.name, q.2.2.1, q.2.2.2)]) (evds_cons (evp_var (P := fun B w => Dp K B w (jrD q.1)) (i := 9) rfl hx) (evds_cons (evd_tup (K := K) (ds := [.int q.2.1, .str t.name, .int q.2.2.1, .int q.2.2.2]) (evds_cons (evd_int (evv_var (i := 4) rfl)) (evds_cons (evd_str (tk_name T (i := 3) rfl ht9)) (evds_cons (evd_int (evv_var (i := 5) rfl)) (evds_cons (evd_int (evv_var (i := 6) rfl)) evds_nil)))) (by simp)) evds_nil)) (by simp)) (by omega) fun w10 B10 H10 e10 _ g10 c10 d10 => ?_
      refine ⟨B10, g9.b.trans e10, g10.bh, ys2 ++ [w10], _, _, _, _, rfl, g10, c10, ?_⟩
      rw [take_next hk, List.map_append, ← List.append_assoc]
      exact paired_app (Mono.up (P := Items (DR K lD) _) e10 it9) (.cons d10 .nil)
    · rintro σ' B8 H8 e8 b8 ⟨ys2, z4, z5, z6, z9, rfl, g8, c8, it8⟩
      rw [List.take_length] at it8
      refine ⟨B8, g4.b.trans ((e46.trans g7'.b).trans e8), g8.bh, ys2, done ++ (((rowsOf ts t own til).zip (srt p3D (mineOf t own til))).map fun q => (q.1, (q.2.1, t.name, q.2.2.1, q.2.2.2))), _, _, _, _, _, _, _, _, rfl, g8, c8, it8, ?_⟩
      rw [flat_next hi, hd3]
  · rintro σ' B3 H3 e3 b3 ⟨ys, done, y3, y4, y5, y6, y7, y8, y9, y10, rfl, g3, c3, it3, hd3⟩
    rw [List.take_length] at hd3
    refine ⟨_, rfl, r _ _ _ (g3.freeze c3) ⟨l, ys, rfl, upd_same, ?_⟩⟩
    rw [show letOf ts own til = done from hd3.symm]
    exact Mono.up (P := Items (DR K lD) done) (Ex.new g3.bh.l c3.nb) it3
end
end K7

set_option Elab.async false
set_option linter.all false
set_option maxRecDepth 100000
set_option maxHeartbeats 2000000
namespace Pw
open PySem PySem.Spec PySem.W L2
open PyProof.Rows hiding St
open Evl (sq_of st_of)
variable [Tbs]
/-! ### 27. a call whose arguments are read of mine, too: what it gives stands beside mine -/
section
variable {R : Hp → List V → (Hp → V → Prop) → Prop} {P : Hp → V → Prop} {tr : TA} {σ : L2.St} {B0 H0 B H : Hp} {vs dvs : List V} {E : XK} {Q : VK} {C : Addr} {te : TE} {m : Str} {a dx : Addr} {fs : List (Str × V)}
theorem s_callB (g : Grow B0 H0 B H) (h : EvA tr σ H (Iss vs)) (r : R B (vs ++ dvs) P) (k : ∀ v B' H', Ex B B' → Grow B0 H0 B' H' → (∀ d u, Cell H0 B H d u → Cell H0 B' H' d u) → P B' v → Q v H') : tCall (Pure R) dvs E tr σ H Q :=
  h H (.refl g.bh.r) _ fun ws B1 H1 g1 e => by
    cases e
    have gx := g.ext g1.h
    exact ⟨B, P, gx.bh, r, fun v B2 H2 g2 p => k v B2 H2 g2.b (gx.trans g2) (fun d u c => (c.ext g1.h).grow g2) p⟩
theorem s_methB (g : Grow B0 H0 B H) (ho : EvV te σ H (.ref a)) (ha : ∀ H1, Ex H H1 → H1 a = some (.ins C dx fs)) (l : fs.lookup m = none) (h : ∀ H1, Ex H H1 → EvA tr σ H1 (Iss vs)) (r : R B (.ref a :: (vs ++ dvs)) P) (k : ∀ v B' H', Ex B B' → Grow B0 H0 B' H' → (∀ d u, Cell H0 B H d u → Cell H0 B' H' d u) → P B' v → Q v H') : tMeth C m (Pure R) dvs E te tr σ H Q :=
  ho H (.refl g.bh.r) _ fun w B1 H1 g1 e => by
    cases e
    refine ⟨a, dx, fs, rfl, ha H1 g1.h, l, h H1 g1.h H1 (.refl g1.h.r) _ fun ws B2 H2 g2 e => ?_⟩
    cases e
    have e12 := g1.h.trans g2.h
    have gx := g.ext e12
    exact ⟨B, P, gx.bh, r, fun v B3 H3 g3 p => k v B3 H3 g3.b (gx.trans g3) (fun d u c => (c.ext e12).grow g3) p⟩
end
/-! ### 28. lists of mine that an attribute names -/
section
variable {α : Type} {K : PySem.W.Frag} {R : Rl α} {as : List α} {ta tb te to_ : TE} {σ : L2.St} {B0 H0 B H : Hp} {l : Addr} {ys : List V} {D : Ends} {ds es : List PyData} {Pv : Hp → V → Prop}
/-- o.extend(e), o is mine -/
theorem s_extE (g : Grow B0 H0 B H) (cl : Cell H0 B H l (.lst ys)) (ho : EvV to_ σ B (.ref l)) (h : EvP te σ B (LsOf K R as)) [MonoR R] (hz : ys.length + as.length ≤ 1000000)
    (k : ∀ zs B' H', Ex B B' → (∀ d u, d ≠ l → Cell H0 B H d u → Cell H0 B' H' d u) → Grow B0 H0 B' H' → Cell H0 B' H' l (.lst (ys ++ zs)) → Items R as B' zs → D.nx σ H') : tDrop (tBM K "list" rExtend to_ (tCons te tNil)) D σ H :=
  ho H g.bh _ fun w B1 H1 g1 e => by
    cases e
    have c1 := cl.grow g1
    refine ⟨.inl ⟨rfl, ys, sq_of c1.at_⟩, h.mono g1.b H1 g1.bh _ fun v B' H' g' ⟨p, zs, e, s, it⟩ => ?_⟩
    subst e
    have len : zs.length = as.length := Paired.length it
    have g2 := g1.trans g'
    exact ⟨l, p, ys, zs, rfl, rfl, (cl.grow g2).at_, g'.bh _ _ s, Nat.le_trans (by omega) (show 1000000 ≤ sizeLine by decide), k zs B' _ g2.b (fun d u nd cd => (cd.grow g2).other nd) ((g.trans g2).mut (cl.grow g2)) (cl.grow g2).set it⟩
/-- o.append(e), o is mine -/
theorem s_appE (g : Grow B0 H0 B H) (cl : Cell H0 B H l (.lst ys)) (ho : EvV to_ σ B (.ref l)) (h : EvP te σ B Pv) [Mono Pv] (hz : ys.length ≤ 1000000)
    (k : ∀ v B' H', Ex B B' → (∀ d u, d ≠ l → Cell H0 B H d u → Cell H0 B' H' d u) → Grow B0 H0 B' H' → Cell H0 B' H' l (.lst (ys ++ [v])) → Pv B' v → D.nx σ H') : tDrop (tBM K "list" rAppend to_ (tCons te tNil)) D σ H :=
  ho H g.bh _ fun w B1 H1 g1 e => by
    cases e
    have c1 := cl.grow g1
    refine ⟨.inl ⟨rfl, ys, sq_of c1.at_⟩, h.mono g1.b H1 g1.bh _ fun v B' H' g' p => ?_⟩
    have g2 := g1.trans g'
    exact ⟨l, ys, v, rfl, rfl, (cl.grow g2).at_, Nat.lt_of_le_of_lt hz (by decide), k v B' _ g2.b (fun d u nd cd => (cd.grow g2).other nd) ((g.trans g2).mut (cl.grow g2)) (cl.grow g2).set p⟩
/-- t + u, tuples of data -/
theorem evd_catT (ha : EvD K ta σ B (.tuple ds)) (hb : EvD K tb σ B (.tuple es)) (n1 : ds ≠ []) (n2 : es ≠ []) (hz : ds.length + es.length ≤ 100000) : EvD K (tOp (rCatT K) ta tb) σ B (.tuple (ds ++ es)) := evp_op ha (fun B' e => hb.mono e) fun x y B' e h1 h2 => by
  cases h1 with
  | tup s a =>
    cases h2 with
    | tup s2 a2 =>
      have l1 := DpAll.len a
      have l2 := DpAll.len a2
      refine fun H bh Q q => ⟨_, _, _, _, rfl, rfl, ex_t bh s, ex_t bh s2, fun z => ?_, Nat.le_trans (by omega) (show 100000 ≤ sizeLine by decide), fun z => ?_, fun _ p hp => ?_⟩
      · rw [z] at l1
        exact n1 (List.eq_nil_of_length_eq_zero l1.symm)
      · rw [z] at l2
        exact absurd (List.eq_nil_of_length_eq_zero l2.symm) n2
      · exact q _ _ _ ((Grow.refl bh).laid hp) (.tup (st_of upd_same) (DpAll.app (dps_up (Ex.new bh.l (ex_none bh hp)) a) (dps_up (Ex.new bh.l (ex_none bh hp)) a2)))
end
end Pw

set_option Elab.async false
set_option linter.all false
set_option maxRecDepth 100000
set_option maxHeartbeats 2000000
namespace Pw
open PySem PySem.Spec PySem.W L2
open PyProof.Rows hiding St
open Evl (sq_of st_of)
variable [Tbs]
/-! ### 31. a comprehension whose list stays mine -/
section
variable {K : PySem.W.Frag} {α β : Type} {R : Rl α} {S : Rl β} {te tl : TE} {tt : TT} {ta : TA} {g : TG} {σ : L2.St} {B B' B0 H0 H : Hp} {vs : List Nat} {as : List α} {bs : List β} {wi : TI} {tz : TS} {D : Ends}
theorem s_lcM [MonoR R] [MonoR S] {Q : VK} (p : α → Bool) (e : α → β) (hl : EvI wi σ B R as) (bh : Ex B H) (hz : as.length ≤ 1000000)
    (hs : ∀ B' x a, Ex B B' → a ∈ as → R B' x a → ∃ σ1, EvG g x (wipe σ vs) B' σ1 ∧ wipe σ1 vs = wipe σ vs ∧ EvT tt σ1 B' (p a) ∧ (p a = true → EvP te σ1 B' fun B' v => S B' v (e a)))
    (k : ∀ l ys B' H', Grow B H B' H' → Cell H B' H' l (.lst ys) → Items S ((as.filter p).map e) B' ys → Q (.ref l) H') : tLc wi g tt te vs σ H Q := hl H bh _ fun J B1 H1 g1 w D hD => by
  refine ⟨fun i m H' => m = as.length - i ∧ i ≤ as.length ∧ LcSt S p e as B1 H1 D i H', ⟨as.length, by simp, Nat.zero_le _, B1, [], (Grow.refl g1.bh).cell hD, Cell.mk' (Grow.refl g1.bh) hD, .nil⟩, ?_⟩
  rintro i m H' ⟨rfl, hi, st⟩
  obtain ⟨B2, ys, gr, c, it⟩ := id st.ex
  by_cases hlt : i < as.length
  · have ha : as[i]? = some as[i] := List.getElem?_eq_getElem hlt
    refine .inr ⟨w.go i _ H' (gr.b.trans gr.bh) ha, fun H'' => LcSt S p e as B1 H1 D (i + 1) H'', fun H'' st' => ⟨as.length - (i + 1), by omega, rfl, hlt, st'⟩, fun x H'' y => ?_⟩
    obtain ⟨B3, g3, r3⟩ := w.yld i _ H' x H'' (gr.b.trans gr.bh) ha y B2 gr.b gr.bh
    have gr3 := gr.trans g3
    have c3 := c.grow g3
    obtain ⟨σ1, h1, h2, h3, h4⟩ := hs B3 x _ (g1.b.trans gr3.b) (List.mem_of_getElem? ha) r3
    have it3 := Mono.up (P := Items S _) g3.b it
    refine h1 H'' gr3.bh _ ⟨h2, h3 H'' gr3.bh _ fun B4 H4 g4 => ?_⟩
    have gr4 := gr3.trans g4
    have c4 := c3.grow g4
    cases hp : p as[i] with
    | false =>
      refine iteF ⟨B4, ys, gr4, c4, ?_⟩
      rw [filt_no ha hp]
      exact Mono.up (P := Items S _) g4.b it3
    | true =>
      haveI : Mono (fun B' v => S B' v (e as[i])) := ⟨fun ee h => MonoR.up ee h⟩
      refine iteT ((h4 hp).mono g4.b H4 g4.bh _ fun y B5 H5 g5 sy => ⟨ys, (c4.grow g5).at_, ?_, ?_⟩)
      · have l : ys.length = _ := Paired.length it
        have := filter_len_le (as := as) (p := p) (e := e) (i := i)
        exact Nat.lt_of_le_of_lt (l ▸ Nat.le_trans this hz) (by decide)
      · have c5 := c4.grow g5
        refine ⟨B5, ys ++ [y], (gr4.trans g5).mut c5, c5.set, ?_⟩
        rw [filt_yes ha hp]
        exact paired_app (Mono.up (P := Items S _) (g4.b.trans g5.b) it3) (.cons sy .nil)
  · have e1 : i = as.length := by omega
    subst e1
    rw [List.take_length] at it
    exact .inl ⟨w.stop H' (gr.b.trans gr.bh), k D ys B2 H' (g1.trans gr) ⟨c.at_, c.nb, ex_none g1.h c.n0, c.po⟩ it⟩
/-- x = [e for ..], mine -/
theorem q_lcM [MonoR R] [MonoR S] {i : Nat} (gr : Grow B0 H0 B H) (p : α → Bool) (e : α → β) (hl : EvI wi σ B R as) (hz : as.length ≤ 1000000)
    (hs : ∀ B' x a, Ex B B' → a ∈ as → R B' x a → ∃ σ1, EvG g x (wipe σ vs) B' σ1 ∧ wipe σ1 vs = wipe σ vs ∧ EvT tt σ1 B' (p a) ∧ (p a = true → EvP te σ1 B' fun B' v => S B' v (e a)))
    (k : ∀ l ys B' H', H l = none → Grow B H B' H' → Grow B0 H0 B' H' → Cell H0 B' H' l (.lst ys) → Items S ((as.filter p).map e) B' ys → tz D (σ.set i (some (.ref l))) H') : tSeq (tAsg (tLc wi g tt te vs) (gName i)) tz D σ H :=
  s_lcM (Q := fun v H' => tz D (σ.set i (some v)) H') p e hl gr.bh hz hs fun l ys B' H' g' c it => k l ys B' H' c.n0 g' (gr.trans g') ⟨c.at_, c.nb, ex_none gr.h c.n0, c.po⟩ it
/-- o.extend(e), o.append(e), then the rest -/
theorem q_extE {to_ : TE} {l : Addr} {ys : List V} (g : Grow B0 H0 B H) (cl : Cell H0 B H l (.lst ys)) (ho : EvV to_ σ B (.ref l)) (h : EvP te σ B (LsOf K R as)) [MonoR R] (hz : ys.length + as.length ≤ 1000000)
    (k : ∀ zs B' H', Ex B B' → (∀ d u, d ≠ l → Cell H0 B H d u → Cell H0 B' H' d u) → Grow B0 H0 B' H' → Cell H0 B' H' l (.lst (ys ++ zs)) → Items R as B' zs → tz D σ H') : tSeq (tDrop (tBM K "list" rExtend to_ (tCons te tNil))) tz D σ H :=
  s_extE (D := { D with nx := tz D }) g cl ho h hz k
theorem q_appE {to_ : TE} {l : Addr} {ys : List V} {Pv : Hp → V → Prop} (g : Grow B0 H0 B H) (cl : Cell H0 B H l (.lst ys)) (ho : EvV to_ σ B (.ref l)) (h : EvP te σ B Pv) [Mono Pv] (hz : ys.length ≤ 1000000)
    (k : ∀ v B' H', Ex B B' → (∀ d u, d ≠ l → Cell H0 B H d u → Cell H0 B' H' d u) → Grow B0 H0 B' H' → Cell H0 B' H' l (.lst (ys ++ [v])) → Pv B' v → tz D σ H') : tSeq (tDrop (tBM K "list" rAppend to_ (tCons te tNil))) tz D σ H :=
  s_appE (D := { D with nx := tz D }) g cl ho h hz k
end
end Pw

set_option Elab.async false
set_option linter.all false
set_option maxRecDepth 100000
set_option maxHeartbeats 2000000
namespace Pw
open PySem PySem.Spec PySem.W L2
open PyProof.Rows hiding St
open Evl (sq_of st_of)
variable [Tbs]
/-! ### 30. decks: [cells, next, rest], whose two numbers nobody tracks -/
def deckL (l : Addr) (a r : Int) : List V := [.ref l, .int a, .int r]
def DeckO (d l : Addr) : HO := .ext fun h => ∃ (a r : Int) (its : List Value) (n : Nat), 0 ≤ a ∧ 0 ≤ r ∧ Vals (deckL l a r) its ∧ h.get? d = some { cls := .type "list", data := .seq its.toArray n }
theorem deckO_nt {d l : Addr} : NT (DeckO d l) := fun ps h => by
  unfold DeckO at h
  cases h
section
variable {P : Program} {w : World} {K : PySem.W.Frag} {mg : Str → Option Value} {base : Heap} {k : Nat} {f : Addr} {fd : FuncData} {ps : List Str} {sp sp' : Sp}
theorem deck_out {H : Hp} {h : Heap} {d l : Addr} (ok : HOk P w H h) (hd : H d = some (DeckO d l)) : ∃ a r : Int, 0 ≤ a ∧ 0 ≤ r ∧ HOk P w (upd H d (.lst (deckL l a r))) h := by
  obtain ⟨⟨a, r, its, n, ha, hr, hv, hg⟩, _, _⟩ := ok d _ hd
  refine ⟨a, r, ha, hr, fun b o hb => ?_⟩
  by_cases e : b = d
  · subst e
    rw [upd_same] at hb
    cases hb
    exact ⟨(by decide : 3 ≤ sizeLine), its, n, hv, hg⟩
  · rw [upd_ne e] at hb
    refine (ok b o hb).stay (fun _ _ _ q => q) (fun c q => ?_) fun c xs q => ?_
    · rw [upd_ne (fun z => by rw [z, hd] at q; cases q)]; exact q
    · rw [upd_ne (fun z => by rw [z, hd] at q; cases q)]; exact q
theorem deck_in {H : Hp} {h : Heap} {d l : Addr} {a r : Int} (ok : HOk P w H h) (ha : 0 ≤ a) (hr : 0 ≤ r) (hd : H d = some (.lst (deckL l a r))) : HOk P w (upd H d (DeckO d l)) h := by
  obtain ⟨_, its, n, hv, hg⟩ := ok d _ hd
  intro b o hb
  by_cases e : b = d
  · subst e
    rw [upd_same] at hb
    cases hb
    exact ⟨⟨a, r, its, n, ha, hr, hv, hg⟩, ⟨_, hg⟩, fun h1 h2 ⟨a', r', its', n', p1, p2, p3, p4⟩ q => ⟨a', r', its', n', p1, p2, p3, q _ p4⟩⟩
  · rw [upd_ne e] at hb
    refine (ok b o hb).stay (fun _ _ _ q => q) (fun c q => ?_) fun c xs q => ?_
    · rw [upd_ne (fun z => by rw [z, hd] at q; cases q)]; exact q
    · rw [upd_ne (fun z => by rw [z, hd] at q; cases q)]; exact q
/-- a def that changes a deck's numbers, told of the deck as a thing that stands -/
theorem fn_deck (F : FnOk P w K mg base CX0 k f fd ps sp) (len : ∀ vs H Q E, sp' vs H Q E → vs.length = ps.length)
    (h : ∀ vs H Q E, sp' vs H Q E → ∃ d l, H d = some (DeckO d l) ∧ ∀ a r : Int, 0 ≤ a → 0 ≤ r → sp vs (upd H d (.lst (deckL l a r))) (fun v H' => ∃ a' r' : Int, 0 ≤ a' ∧ 0 ≤ r' ∧ H' d = some (.lst (deckL l a' r')) ∧ Q v (upd H' d (DeckO d l))) E) : FnOk P w K mg base CX0 k f fd ps sp' := by
  refine ⟨len, fun A outer s H args us vs Q E hr he hb hv hs => ?_⟩
  obtain ⟨d, l, hd, hh⟩ := h vs H Q E hs
  obtain ⟨a, r, ha, hr', ok2⟩ := deck_out he.hok hd
  have nn : ∀ {b : Addr}, H b = none → upd H d (.lst (deckL l a r)) b = none := fun {b} q => by rw [upd_ne (fun z => by rw [z, hd] at q; cases q)]; exact q
  have he2 : Env0 P w K mg base A outer s (upd H d (.lst (deckL l a r))) := ⟨he.frames, he.mod, fun b o q => ⟨(he.bs b o q).1, nn (he.bs b o q).2⟩, he.bsz, he.funs, fun b q => nn (he.frf b q), ok2, he.bare⟩
  refine codeAny_mono (F.run A outer s _ args us vs _ E hr he2 hb hv (hh a r ha hr')) fun res s' hq => ?_
  cases res with
  | error e => exact False.elim hq
  | ok fl =>
    cases fl with
    | next => exact False.elim hq
    | brk => exact False.elim hq
    | cont => exact False.elim hq
    | ret u =>
      obtain ⟨v, H', os, bare, un, hok, rv, a', r', ha', hr2, hd', q⟩ := hq
      refine ⟨v, upd H' d (DeckO d l), os, bare, ?_, deck_in hok ha' hr2 hd', rv, q⟩
      refine ⟨fun b o q n => un.keep b o q (nn n), fun b o q n => un.slot b o q (nn n), fun b o q n x => ?_, un.there, fun b xs q => ?_, fun b o u q => ?_, fun b ps q => ?_⟩
      · rw [upd_ne (fun z => by rw [z, hd] at n; cases n)]
        exact un.free b o q (nn n) x
      · have ne : b ≠ d := fun z => by rw [z, hd] at q; cases q
        rw [upd_ne ne]
        exact un.tups b xs (by rw [upd_ne ne]; exact q)
      · have ne : b ≠ d := fun z => by rw [z, hd] at q; cases q
        rw [upd_ne ne]
        exact un.frzs b o u (by rw [upd_ne ne]; exact q)
      · have ne : b ≠ d := fun z => by rw [z, hd] at q; cases q
        rw [upd_ne ne]
        exact un.tbls b ps (by rw [upd_ne ne]; exact q)
theorem deckO_po {d l : Addr} : PO (DeckO d l) := ⟨deckO_nt, fun c q e => by
  unfold DeckO LamX.CodeO at e
  injection e with e
  have h := congrFun e ⟨Array.replicate (d + 1) { cls := .type "list", data := .seq #[.ref l, .int 0 0, .int 0 0] 0 }, {}⟩
  have h1 := h.mp ⟨0, 0, [.ref l, .int 0 0, .int 0 0], 0, Int.le_refl _, Int.le_refl _, .cons rfl (.cons ⟨0, rfl⟩ (.cons ⟨0, rfl⟩ .nil)), by simp [Heap.get?]⟩
  obtain ⟨oc, vs, t, h2, h3, _⟩ := h1
  unfold Heap.get? at h2
  by_cases z : c < d + 1
  · simp [z] at h2
    rw [← h2] at h3
    cases h3
  · simp [z] at h2⟩
/-- a deck stands -/
def DeckAt (B : Hp) (v : V) : Prop := ∃ (d l : Addr) (cells : List Int), v = .ref d ∧ B d = some (DeckO d l) ∧ B l = some (.lst (cells.map V.int)) ∧ cells.length ≤ 1000
theorem DeckAt.up {B B' : Hp} {v : V} (h : DeckAt B v) (e : Ex B B') : DeckAt B' v := by
  obtain ⟨d, l, cells, h1, h2, h3, h4⟩ := h
  exact ⟨d, l, cells, h1, e.at_ _ _ h2 deckO_nt, e.at_ _ _ h3 po_lst.1, h4⟩
/-- a number below many -/
def Below (many : Int) : Hp → V → Prop := fun _ v => ∃ k : Int, v = .int k ∧ 0 ≤ k ∧ k < many
instance {many : Int} : Mono (Below many) := ⟨fun _ h => h⟩
def R_lawOf : Hp → List V → (Hp → V → Prop) → Prop := fun B vs P => ∃ (u : V) (many : Int), vs = [u, .int many] ∧ DeckAt B u ∧ 1 ≤ many ∧ many < 1000000 ∧ P = Below many
def spLawOf : Sp := fun vs H Q _ => ∃ (B : Hp) (d l : Addr) (a r many : Int) (cells : List Int), vs = [.ref d, .int many] ∧ Grow B (delA H d) B H ∧ Cell (delA H d) B H d (.lst (deckL l a r)) ∧ B l = some (.lst (cells.map V.int)) ∧ cells.length ≤ 1000 ∧ 0 ≤ a ∧ 0 ≤ r ∧ 1 ≤ many ∧ many < 1000000 ∧
  ∀ (v a' r' : Int) (B' H' : Hp), 0 ≤ v → v < many → 0 ≤ a' → 0 ≤ r' → Grow B (delA H d) B' H' → Cell (delA H d) B' H' d (.lst (deckL l a' r')) → Q (.int v) H'
/-- the strong promise gives the weak one -/
theorem deck_pure (F : FnOk P w K mg base CX0 k f fd ["deck", "many"] spLawOf) : FnOk P w K mg base CX0 k f fd ["deck", "many"] (Pure R_lawOf) := by
  refine fn_deck F (fun vs H Q E ⟨B, P', _, ⟨u, many, h, _⟩, _⟩ => by rw [h]; rfl) fun vs H Q E ⟨B, P', bh, ⟨u, many, hvs, ⟨d, l, cells, hu, hd, hl, hc⟩, h1, h2, hP⟩, q⟩ => ?_
  subst hu hvs hP
  have hdH := bh.at_ _ _ hd deckO_nt
  have nld : l ≠ d := fun z => by
    rw [z, hd] at hl
    unfold DeckO at hl
    cases hl
  refine ⟨d, l, hdH, fun a r ha hr => ?_⟩
  have eA : ∀ o, delA (upd H d o) d = delA H d := fun o => by
    funext b
    by_cases z : b = d
    · subst z; rw [delA_same, delA_same]
    · rw [delA_ne z, delA_ne z, upd_ne z]
  have tbB : Tb (delA B d) := bh.l.del hd deckO_po
  have tbH : Tb (delA H d) := bh.r.del hdH deckO_po
  have tbU : Tb (upd H d (.lst (deckL l a r))) := bh.r.set hdH deckO_po
  refine ⟨delA B d, d, l, a, r, many, cells, rfl, ?_, ?_, by rw [delA_ne nld]; exact hl, hc, ha, hr, h1, h2, fun v a' r' B' H' v0 v1 a0 r0 g c => ?_⟩
  · rw [eA]
    have e1 : ∀ b o, delA H d b = some o → upd H d (.lst (deckL l a r)) b = some o := fun b o z => by
      obtain ⟨n, z⟩ := delA_some z
      rw [upd_ne n]
      exact z
    have e2 : ∀ b o, delA B d b = some o → NT o → delA H d b = some o := fun b o z n => by
      obtain ⟨ne, z⟩ := delA_some z
      rw [delA_ne ne]
      exact bh.at_ _ _ z n
    have e3 : ∀ b ps, delA B d b = some (.tbl ps) → ∃ ps', delA H d b = some (.tbl ps') := fun b ps z => by
      obtain ⟨ne, z⟩ := delA_some z
      rw [delA_ne ne]
      exact bh.tab _ _ z
    exact ⟨.refl tbB, ⟨fun b o z n => e1 _ _ (e2 b o z n), fun b ps z => let ⟨ps', z'⟩ := e3 b ps z; ⟨ps', e1 _ _ z'⟩, tbB, tbU⟩, ⟨fun b o z n => e1 _ _ z, fun b ps z => ⟨ps, e1 _ _ z⟩, tbH, tbU⟩, fun b o z => .inl z⟩
  · rw [eA]
    exact ⟨upd_same, delA_same, delA_same, po_lst⟩
  · rw [eA] at g c
    refine ⟨a', r', a0, r0, c.at_, q _ (upd B' d (DeckO d l)) _ ?_ ⟨v, rfl, v0, v1⟩⟩
    have nB' : B' d = none := c.nb
    have tb2 : Tb (upd H' d (DeckO d l)) := g.bh.r.set c.at_ po_lst
    have tb1 : Tb (upd B' d (DeckO d l)) := g.b.r.new nB'
    refine ⟨⟨fun b o z n => ?_, fun b ps z => ?_, bh.l, tb1⟩, ⟨fun b o z n => ?_, fun b ps z => ?_, tb1, tb2⟩, ⟨fun b o z n => ?_, fun b ps z => ?_, bh.r, tb2⟩, fun b o z => ?_⟩
    · by_cases e : b = d
      · subst e; rw [upd_same]; rw [hd] at z; exact z
      · rw [upd_ne e]; exact g.b.at_ b o (by rw [delA_ne e]; exact z) n
    · by_cases e : b = d
      · subst e; rw [hd] at z; exact absurd (Option.some.inj z) (deckO_nt ps)
      · rw [upd_ne e]; exact g.b.tab b ps (by rw [delA_ne e]; exact z)
    · by_cases e : b = d
      · subst e; rw [upd_same] at z ⊢; exact z
      · rw [upd_ne e] at z ⊢; exact g.bh.at_ b o z n
    · by_cases e : b = d
      · subst e; rw [upd_same] at z; exact absurd (Option.some.inj z) (deckO_nt ps)
      · rw [upd_ne e] at z ⊢; exact g.bh.tab b ps z
    · by_cases e : b = d
      · subst e; rw [upd_same]; rw [hdH] at z; exact z
      · rw [upd_ne e]; exact g.h.at_ b o (by rw [delA_ne e]; exact z) n
    · by_cases e : b = d
      · subst e; rw [hdH] at z; exact absurd (Option.some.inj z) (deckO_nt ps)
      · rw [upd_ne e]; exact g.h.tab b ps (by rw [delA_ne e]; exact z)
    · by_cases e : b = d
      · subst e; rw [upd_same] at z; cases z; exact .inl hd
      · rw [upd_ne e] at z
        rcases g.new b o z with x | x
        · exact .inl (by rw [delA_ne e] at x; exact x)
        · exact .inr (by rw [delA_ne e] at x; exact x)
end
end Pw

set_option Elab.async false
set_option linter.all false
set_option maxRecDepth 100000
set_option maxHeartbeats 2000000
namespace Pw
open PySem PySem.Spec PySem.W L2
open PyProof.Rows hiding St
open Evl (sq_of st_of)
variable [Tbs]
/-! ### 32. dicts that are known for good from when they are made -/
def tFz (t : TE) : TE := fun σ H Q => t σ H fun v H' => ∃ d u, v = .ref d ∧ H' d = some u ∧ Mut (some u) ∧ ∀ od, Q v (upd H' d (.frz od u))
theorem pe_fz {X : Cx} {e : Expr} {t : TE} (h : PE X e t) : PE X e (tFz t) := by
  refine ⟨fun pins s σ H Q I hw => ?_⟩
  refine thn (h.run pins s σ H _ I hw) fun v s1 ⟨x, H1, I2, r, d, u, ev, hd, mu, q⟩ => ?_
  obtain ⟨od, I3⟩ := I2.lock hd mu
  exact ⟨x, _, I3, r, q od⟩
def FzD (kvs : List (Key × V)) : Hp → V → Prop := fun B v => ∃ d od, v = .ref d ∧ B d = some (.frz od (.dK kvs))
instance {kvs : List (Key × V)} : Mono (FzD kvs) := ⟨fun e ⟨d, od, h1, h2⟩ => ⟨d, od, h1, e _ _ h2⟩⟩
def RdD (kvs : List (Key × V)) : Hp → V → Prop := fun B v => ∃ d, v = .ref d ∧ Rd B d (.dK kvs)
instance {kvs : List (Key × V)} : Mono (RdD kvs) := ⟨fun e ⟨d, h1, h2⟩ => ⟨d, h1, ex_rd e h2 po_dK.1⟩⟩
theorem FzD.rd {kvs : List (Key × V)} {B : Hp} {v : V} (h : FzD kvs B v) : RdD kvs B v := let ⟨d, od, h1, h2⟩ := h; ⟨d, h1, .inr ⟨od, h2⟩⟩
/-- pairs of a text and a thing -/
def PrR {α : Type} (K : PySem.W.Frag) (R : Rl α) : Rl (Str × α) := fun B v p => ∃ T x, v = .ref T ∧ SqT K B T [.str p.1, x] ∧ R B x p.2
instance {α : Type} {K : PySem.W.Frag} {R : Rl α} [MonoR R] : MonoR (PrR K R) := ⟨fun e ⟨T, x, h, s, r⟩ => ⟨T, x, h, ex_t e s, MonoR.up e r⟩⟩
abbrev SnR {α : Type} (R : Rl α) : Rl (Str × α) := fun B v p => R B v p.2
instance {α : Type} {R : Rl α} [MonoR R] : MonoR (SnR R) := ⟨fun e h => MonoR.up (R := R) e h⟩
abbrev sKey {α : Type} (p : Str × α) : Key := .inr p.1
/-- a known dict from names to things -/
def FzMap {α : Type} (R : Rl α) (as : List (Str × α)) : Hp → V → Prop := fun B v => ∃ kvs, FzD kvs B v ∧ DMap (SnR R) sKey as B kvs
instance {α : Type} {R : Rl α} [MonoR R] {as : List (Str × α)} : Mono (FzMap R as) := ⟨fun e ⟨kvs, h1, h2⟩ => ⟨kvs, Mono.up e h1, h2.up e⟩⟩
section
variable {K : PySem.W.Frag} {α : Type} {R : Rl α} {te tk : TE} {σ : L2.St} {B B' H : Hp} {as : List (Str × α)} {kvs : List (Key × V)} {k : Key} {v : V}
/-- dict(d) -/
theorem evp_dictFz {P : Hp → V → Prop} [Mono P] (h : EvP te σ B (RdD kvs)) (hp : ∀ B' v, Ex B B' → FzD kvs B' v → P B' v) : EvP (tFz (tCB (fun xs H Q => ∃ (a : Addr) (kvs : List (Key × V)), xs = [.ref a] ∧ Rd H a (.dK kvs) ∧ ∀ p, H p = none → Q (.ref p) (upd H p (.dK kvs))) (tCons te tNil))) σ B P := fun H bh Q q =>
  h H bh _ fun w B1 H1 g1 ⟨a, e, rd⟩ => by
    subst e
    refine ⟨a, kvs, rfl, ex_rd g1.bh rd po_dK.1, fun p hp' => ⟨p, _, rfl, upd_same, trivial, fun od => ?_⟩⟩
    rw [upd_upd]
    have g2 := g1.laid (o := .frz od (.dK kvs)) hp'
    exact q _ _ _ g2 (hp _ _ g2.b ⟨p, od, rfl, upd_same⟩)
theorem dmap_merge [MonoR R] : ∀ {bs : List (Str × α)} {done : List (Str × α)} {acc : List (Key × V)} {kv : List (Key × V)}, DMap (SnR R) sKey done B acc → ((done ++ bs).map (·.1)).Nodup → Paired (fun (q : Key × V) (b : Str × α) => q.1 = sKey b ∧ R B q.2 b.2) kv bs → DMap (SnR R) sKey (done ++ bs) B (mergeK acc kv)
  | [], done, acc, _, d, _, .nil => by rw [List.append_nil]; exact d
  | b :: bs, done, acc, q :: kv, d, nd, .cons ⟨h1, h2⟩ t => by
    obtain ⟨k, v⟩ := q
    cases h1
    have d2 : DMap (SnR R) sKey (done ++ [b]) B (putK acc (sKey b) v) := d.put (fun c hc e => by
      have e1 : c.1 = b.1 := Sum.inr.inj e
      rw [List.map_append, List.nodup_append] at nd
      exact nd.2.2 _ (List.mem_map.mpr ⟨c, hc, rfl⟩) _ (List.mem_map.mpr ⟨b, List.mem_cons_self, rfl⟩) e1) h2
    have := dmap_merge (bs := bs) (kv := kv) d2 (by rw [List.append_assoc]; exact nd) t
    rw [List.append_assoc] at this
    exact this
/-- dict([(name, thing), ..]) -/
theorem evp_dictP [MonoR R] (h : EvP te σ B (LsOf K (PrR K R) as)) (nd : (as.map (·.1)).Nodup) : EvP (tFz (tCB (fun xs H Q => ∃ (a : Addr) (ps : List Addr) (kvs : List (Key × V)), xs = [.ref a] ∧ SqL K H a (ps.map V.ref) ∧ Paired (fun p kv => SqT K H p [kV kv.1, kv.2]) ps kvs ∧
    ∀ p, H p = none → Q (.ref p) (upd H p (.dK (mergeK [] kvs)))) (tCons te tNil))) σ B (FzMap R as) := fun H bh Q q => h H bh _ fun w B1 H1 g1 ⟨l, xs, e, sl, it⟩ => by
  subst e
  have go : ∀ {xs : List V} {as : List (Str × α)}, Paired (PrR K R B1) xs as → ∃ (ps : List Addr) (kv : List (Key × V)), xs = ps.map V.ref ∧ Paired (fun p (kv : Key × V) => SqT K B1 p [kV kv.1, kv.2]) ps kv ∧ Paired (fun (q : Key × V) (b : Str × α) => q.1 = sKey b ∧ R B1 q.2 b.2) kv as := fun {xs as} hp => by
    induction hp with
    | nil => exact ⟨[], [], rfl, .nil, .nil⟩
    | cons a _ ih =>
      obtain ⟨T, x, h1, h2, h3⟩ := a
      obtain ⟨ps, kv, e, i1, i2⟩ := ih
      subst h1 e
      exact ⟨T :: ps, (.inr _, x) :: kv, rfl, .cons h2 i1, .cons ⟨rfl, h3⟩ i2⟩
  obtain ⟨ps, kv, e, p1, p2⟩ := go it
  subst e
  refine ⟨l, ps, kv, rfl, ex_l g1.bh (sq_of sl), Paired.mapP p1 fun _ _ s => ex_t g1.bh s, fun p hp => ⟨p, _, rfl, upd_same, trivial, fun od => ?_⟩⟩
  rw [upd_upd]
  have g2 := g1.laid (o := .frz od (.dK (mergeK [] kv))) hp
  have e2 := Ex.new (o := .frz od (.dK (mergeK [] kv))) g1.bh.l (ex_none g1.bh hp)
  have d := dmap_merge (R := R) (B := B1) (DMap.nil (R := SnR R) (key := sKey)) nd p2
  exact q _ _ _ g2 ⟨_, ⟨p, od, rfl, upd_same⟩, d.up e2⟩
theorem evp_dgetR {P : Hp → V → Prop} [Mono P] (hd : EvP te σ B (RdD kvs)) (hk : EvV tk σ B (kV k)) (hv : valV kvs k = some v) (p : P B v) : EvP (tDGet te tk) σ B P := fun H bh Q q => hd H bh _ fun w B1 H1 g1 ⟨a, e, rd⟩ => by
  subst e
  exact hk.mono g1.b H1 g1.bh _ fun w B2 H2 g2 e => by
    cases e
    exact ⟨a, v, rfl, .inl ⟨kvs, k, ex_rd (g2.b.trans g2.bh) rd po_dK.1, rfl, hv.symm⟩, q v B2 H2 (g1.trans g2) (Mono.up (g1.trans g2).b p)⟩
theorem evv_dinR (hd : EvP te σ B (RdD kvs)) (hk : EvV tk σ B (kV k)) : EvV (tDIn tk te) σ B (.bl (valV kvs k).isSome) := fun H bh Q q => hk H bh _ fun w B1 H1 g1 e => by
  cases e
  exact hd.mono g1.b H1 g1.bh _ fun w B2 H2 g2 ⟨a, e, rd⟩ => by
    subst e
    exact ⟨a, _, rfl, .inl ⟨kvs, k, ex_rd g2.bh rd po_dK.1, rfl, rfl⟩, q _ B2 H2 (g1.trans g2) rfl⟩
theorem evv_dnotinR (hd : EvP te σ B (RdD kvs)) (hk : EvV tk σ B (kV k)) : EvV (tDNotIn tk te) σ B (.bl (!(valV kvs k).isSome)) := fun H bh Q q => hk H bh _ fun w B1 H1 g1 e => by
  cases e
  exact hd.mono g1.b H1 g1.bh _ fun w B2 H2 g2 ⟨a, e, rd⟩ => by
    subst e
    exact ⟨a, _, rfl, .inl ⟨kvs, k, ex_rd g2.bh rd po_dK.1, rfl, rfl⟩, q _ B2 H2 (g1.trans g2) rfl⟩
/-- for k in d | d.values() -/
theorem evi_keysF (h : EvP te σ B (FzD kvs)) : EvI (iKeys te) σ B (VR fun q : Key × V => kV q.1) kvs := fun H bh Rk k => h H bh _ fun v B1 H1 g ⟨d, od, e, hd⟩ => by
  subst e
  refine ⟨d, od, rfl, .inl ⟨kvs, g.bh _ _ hd, k _ B1 H1 g ⟨fun H x => ⟨x _ _ hd, Nat.le_refl _⟩, fun i a H x hi => ⟨x _ _ hd, (List.getElem?_eq_some_iff.mp hi).1⟩, fun i a H v H' x hi y B2 e2 b2 => ?_⟩⟩⟩
  obtain ⟨e1, k', v', hk, hv⟩ := y
  subst e1
  rw [hi] at hk
  cases hk
  exact ⟨B2, Grow.refl b2, hv⟩
theorem valV_at : ∀ {kvs : List (Key × V)} {i : Nat} {k : Key} {v : V}, (kvs.map (·.1)).Nodup → kvs[i]? = some (k, v) → valV kvs k = some v
  | _ :: _, 0, _, _, _, h => by cases h; exact valV_pos rfl
  | p :: r, i + 1, k, v, nd, h => by
    rw [List.map_cons, List.nodup_cons] at nd
    have h' : r[i]? = some (k, v) := h
    rw [valV_neg (fun e => nd.1 (by rw [e]; exact List.mem_map.mpr ⟨_, List.mem_of_getElem? h', rfl⟩))]
    exact valV_at nd.2 h'
theorem sKey_nd : ∀ {as : List (Str × α)}, (as.map (·.1)).Nodup → (as.map sKey).Nodup := fun {as} h => by
  have e : as.map sKey = (as.map (·.1)).map (fun n => (.inr n : Key)) := by rw [List.map_map]; rfl
  rw [e]
  exact List.Pairwise.map _ (fun a b n z => n (Sum.inr.inj z)) h
theorem evi_valsF [MonoR R] (nd : (as.map (·.1)).Nodup) (h : EvP te σ B (FzMap R as)) : EvI (iVals te) σ B (SnR R) as := fun H bh Rk k => h H bh _ fun v B1 H1 g ⟨kvs, ⟨d, od, e, hd⟩, dm⟩ => by
  subst e
  have len := dm.len
  refine ⟨d, od, kvs, rfl, g.bh _ _ hd, k _ B1 H1 g ⟨fun H x => ⟨x _ _ hd, by rw [len]; exact Nat.le_refl _⟩, fun i a H x hi => ⟨x _ _ hd, by rw [len]; exact (List.getElem?_eq_some_iff.mp hi).1⟩, fun i a H v H' x hi y B2 e2 b2 => ?_⟩⟩
  obtain ⟨e1, k', hk⟩ := y
  subst e1
  have hk2 : k' = sKey a := by
    have z := congrArg (·[i]?) dm.keys
    simp only [List.getElem?_map, hk, hi, Option.map_some, Option.some.injEq] at z
    exact z
  obtain ⟨u, hu1, hu2⟩ := dm.at_ a (List.mem_of_getElem? hi)
  have hv := valV_at (by rw [dm.keys]; exact sKey_nd nd) hk
  rw [hk2, hu1] at hv
  cases hv
  exact ⟨B2, Grow.refl b2, MonoR.up e2 hu2⟩
theorem evp_lock {d : Addr} {u : HO} {P P' : Hp → V → Prop} (hd : B d = some u) (mu : Mut (some u)) (po : PO u) (h : ∀ od, EvP te σ (upd B d (.frz od u)) P') (tr : ∀ od B' v, B' d = some (.frz od u) → P' B' v → P (upd B' d u) v) : EvP (tLockE te) σ B P := fun H bh Q q => by
  have hdH := bh.at_ _ _ hd po.1
  refine ⟨d, u, hdH, mu, fun od => ?_⟩
  have tB : Tb (upd B d (.frz od u)) := bh.l.set hd po
  have tH : Tb (upd H d (.frz od u)) := bh.r.set hdH po
  have bf : Ex (upd B d (.frz od u)) (upd H d (.frz od u)) := ⟨fun b o z n => by
    by_cases e : b = d
    · subst e; rw [upd_same] at z ⊢; exact z
    · rw [upd_ne e] at z ⊢; exact bh.at_ _ _ z n, fun b ps z => by
    by_cases e : b = d
    · subst e; rw [upd_same] at z; cases z
    · rw [upd_ne e] at z ⊢; exact bh.tab _ _ z, tB, tH⟩
  refine h od _ bf _ fun v B' H' g p => ?_
  have hB' : B' d = some (.frz od u) := g.b _ _ upd_same
  have hH' : H' d = some (.frz od u) := g.bh _ _ hB'
  have t1 : Tb (upd B' d u) := g.bh.l.set hB' po_frz
  have t2 : Tb (upd H' d u) := g.bh.r.set hH' po_frz
  refine ⟨hH', q v (upd B' d u) _ ⟨⟨fun b o z n => ?_, fun b ps z => ?_, bh.l, t1⟩, ⟨fun b o z n => ?_, fun b ps z => ?_, t1, t2⟩, ⟨fun b o z n => ?_, fun b ps z => ?_, bh.r, t2⟩, fun b o z => ?_⟩ (tr od B' v hB' p)⟩
  · by_cases e : b = d
    · subst e; rw [upd_same]; rw [hd] at z; exact z
    · rw [upd_ne e]; exact g.b.at_ b o (by rw [upd_ne e]; exact z) n
  · by_cases e : b = d
    · subst e; rw [upd_same]; rw [hd] at z; exact ⟨ps, z⟩
    · rw [upd_ne e]; exact g.b.tab b ps (by rw [upd_ne e]; exact z)
  · by_cases e : b = d
    · subst e; rw [upd_same] at z ⊢; exact z
    · rw [upd_ne e] at z ⊢; exact g.bh.at_ b o z n
  · by_cases e : b = d
    · subst e; rw [upd_same] at z ⊢; exact ⟨ps, z⟩
    · rw [upd_ne e] at z ⊢; exact g.bh.tab b ps z
  · by_cases e : b = d
    · subst e; rw [upd_same]; rw [hdH] at z; exact z
    · rw [upd_ne e]; exact g.h.at_ b o (by rw [upd_ne e]; exact z) n
  · by_cases e : b = d
    · subst e; rw [upd_same]; rw [hdH] at z; exact ⟨ps, z⟩
    · rw [upd_ne e]; exact g.h.tab b ps (by rw [upd_ne e]; exact z)
  · by_cases e : b = d
    · subst e; rw [upd_same] at z; cases z; exact .inl hd
    · rw [upd_ne e] at z
      rcases g.new b o z with x | x
      · exact .inl (by rw [upd_ne e] at x; exact x)
      · exact .inr (by rw [upd_ne e] at x; exact x)
end
/-- e, then the rest: read of all that stands -/
theorem q_dropH {te : TE} {tz : TS} {D : Ends} {σ : L2.St} {H : Hp} {Pv : Hp → V → Prop} (t : Tb H) (h : EvP te σ H Pv) (k : ∀ H1, Ex H H1 → tz D σ H1) : tSeq (tDrop te) tz D σ H :=
  h H (.refl t) _ fun v B1 H1 g1 p => k H1 g1.h
end Pw

set_option Elab.async false
set_option linter.all false
set_option maxRecDepth 100000
set_option maxHeartbeats 4000000
namespace K7
open PySem PySem.Spec PySem.W L2 Pw
open PyProof.Rows hiding St
open Evl (sq_of st_of)
variable [Tbs]
/-! ### houses, as they stand -/
structure Hs where
  plans : List (Str × List TaskD)
  first : Str
  heard : List W3
  wanted : List (Int × Str)
  hour : Int
def houseF (pv : V) (first : Str) (hv wv : V) (hour : Int) : List (Str × V) := [("plans", pv), ("first", .str first), ("heard", hv), ("wanted", wv), ("hour", .int hour)]
def wantedK (ws : List (Int × Str)) : List (Key × V) := ws.map fun p => (.inl p.1, .str p.2)
def HouseIs (K : PySem.W.Frag) (c : Cs) (h : Hs) : Hp → List (Str × V) → Prop := fun B fs => ∃ pv hv wd, fs = houseF pv h.first hv (.ref wd) h.hour ∧ FzMap (PlanAt K c) h.plans B pv ∧ LsOf K (DR K wD) h.heard B hv ∧ B wd = some (.dK (wantedK h.wanted))
def HouseAt (K : PySem.W.Frag) (c : Cs) : Rl Hs := fun B v h => ∃ a dx fs, v = .ref a ∧ B a = some (.ins c.House dx fs) ∧ HouseIs K c h B fs
instance {K : PySem.W.Frag} {c : Cs} : MonoR (HouseAt K c) := ⟨fun e ⟨a, dx, fs, h, h1, pv, hv, wd, h2, h3, h5, h6⟩ => ⟨a, dx, fs, h, e _ _ h1, pv, hv, wd, h2, Mono.up (P := FzMap (PlanAt K c) _) e h3, Mono.up (P := LsOf K (DR K wD) _) e h5, e _ _ h6⟩⟩
def R_now (K : PySem.W.Frag) (c : Cs) : Hp → List V → (Hp → V → Prop) → Prop := fun B vs P => ∃ (v : V) (h : Hs), vs = [v] ∧ HouseAt K c B v h ∧ P = Is (.int h.hour)
def R_needHour (K : PySem.W.Frag) (c : Cs) : Hp → List V → (Hp → V → Prop) → Prop := fun B vs P => ∃ (v : V) (h : Hs) (k : Int), vs = [v, .int k] ∧ HouseAt K c B v h ∧ h.hour ≤ k ∧ P = Is .non
section
variable {P : Program} {w : World} {K : PySem.W.Frag} {mg : Str → Option Value} {base : Heap} {c : Cs} {f : Addr} {fd : FuncData}
section
variable {σ : L2.St} {B : Hp} {v : V} {te : TE} {h : Hs}
theorem ho_hour (T : Txt K mg c) (hv : EvV te σ B v) (hh : HouseAt K c B v h) : EvV (tFld K te "hour") σ B (.int h.hour) := by
  obtain ⟨a, dx, fs, rfl, h1, pv, hl, wd, rfl, h2⟩ := hh
  exact evv_fld hv h1 T.c_House T.n_House_hour rfl
theorem ho_first (T : Txt K mg c) (hv : EvV te σ B v) (hh : HouseAt K c B v h) : EvV (tFld K te "first") σ B (.str h.first) := by
  obtain ⟨a, dx, fs, rfl, h1, pv, hl, wd, rfl, h2⟩ := hh
  exact evv_fld hv h1 T.c_House T.n_House_first rfl
theorem ho_heard (T : Txt K mg c) (hv : EvV te σ B v) (hh : HouseAt K c B v h) : EvP (tFld K te "heard") σ B (LsOf K (DR K wD) h.heard) := by
  obtain ⟨a, dx, fs, rfl, h1, pv, hl, wd, rfl, h2, h4, h5⟩ := hh
  exact evp_fld hv h1 T.c_House T.n_House_heard rfl h4
/-- a plan by its name -/
theorem ho_plan {tk : TE} {p : Str × List TaskD} (T : Txt K mg c) (hv : EvV te σ B v) (hh : HouseAt K c B v h) (hp : p ∈ h.plans) (hk : EvV tk σ B (.str p.1)) : EvP (tDGet (tFld K te "plans") tk) σ B (fun B' u => PlanAt K c B' u p.2) := by
  obtain ⟨a, dx, fs, rfl, h1, pv, hl, wd, rfl, h2, h4, h5⟩ := hh
  obtain ⟨pk, hfz, h3⟩ := h2
  obtain ⟨u, hu1, hu2⟩ := h3.at_ p hp
  haveI : Mono (fun (B' : Hp) u => PlanAt K c B' u p.2) := ⟨fun e q => MonoR.up (R := PlanAt K c) e q⟩
  exact evp_dgetR (k := sKey p) (evp_fld (P := RdD pk) hv h1 T.c_House T.n_House_plans rfl hfz.rd) hk hu1 hu2
theorem ev_houseM {tr : TA} {E : XK} {m : Str} {R : Hp → List V → (Hp → V → Prop) → Prop} {us : List V} {Pv : Hp → V → Prop} (hv : EvV te σ B v) (hh : HouseAt K c B v h) (hm : (houseF .non "" .non .non 0).lookup m = none) (ha : EvA tr σ B (Iss us)) (k : ∀ B', Ex B B' → R B' (v :: us) Pv) : EvP (tMeth c.House m (Pure R) [] E te tr) σ B Pv := by
  obtain ⟨a, dx, fs, rfl, h1, pv, hl, wd, rfl, h2, h4, h5⟩ := hh
  have hm' : (houseF pv h.first hl (.ref wd) h.hour).lookup m = none := by
    unfold houseF at hm ⊢
    simp only [List.lookup] at hm ⊢
    revert hm
    repeat' split
    all_goals first | (intro h; cases h; done) | exact fun h => h
  refine evp_meth hv h1 hm' ha fun B' vs e hvs => ?_
  cases hvs
  rw [List.append_nil]
  exact k B' e
end
abbrev s_House_now : Stmt := inClass (top 25) 1
theorem sc_House_now : FnScope ["self"] ["self"] (defScope s_House_now) := ⟨rfl, rfl, rfl, by decide +kernel, rfl, by decide +kernel, by decide +kernel⟩
/- slots: 0=self -/
theorem ok_House_now (F : Fun K "now" "House.now" s_House_now f fd) (T : Txt K mg c) : FnOk P w K mg base CX0 1 f fd ["self"] (Pure (R_now K c)) := by
  refine pure_ok F sc_House_now (fun B vs P' ⟨v, h, e, _⟩ => by rw [e]; rfl) fun cdv A outer s H0 E hr => ?_
  refine ⟨_, (pss_one (ps_ret (pe_fld (pv 0) rfl))), fun B vs P' ⟨v, h, hv, hh, hP⟩ => ?_⟩
  subst hv hP
  exact evs_ret (ho_hour T (evv_var rfl) hh)
abbrev s_House_need_hour : Stmt := inClass (top 25) 2
theorem sc_House_need_hour : FnScope ["self", "hour"] ["self", "hour"] (defScope s_House_need_hour) := ⟨rfl, rfl, rfl, by decide +kernel, rfl, by decide +kernel, by decide +kernel⟩
/- slots: 0=self 1=hour -/
theorem ok_House_need_hour (F : Fun K "need_hour" "House.need_hour" s_House_need_hour f fd) (T : Txt K mg c) : FnOk P w K mg base CX0 1 f fd ["self", "hour"] (Pure (R_needHour K c)) := by
  refine pure_ok F sc_House_need_hour (fun B vs P' ⟨v, h, k, e, _⟩ => by rw [e]; rfl) fun cdv A outer s H0 E hr => ?_
  refine ⟨_, (pss_one (ps_if (pt_cmpR op_lt (pv 1) (pe_fld (pv 0) rfl) (nomark _)) (pss_one ps_never) pss_nil)), fun B vs P' ⟨v, h, k, hv, hh, hk, hP⟩ => ?_⟩
  subst hv hP
  exact evs_unless1 (evt_eq (evt_test (evv_I0 (evv_var rfl) (ho_hour T (evv_var rfl) hh))) (by rw [decide_eq_false (by omega)])) fun B' _ => rfl
end
end K7

set_option Elab.async false
set_option linter.all false
set_option maxRecDepth 100000
set_option maxHeartbeats 4000000
namespace K7
open PySem PySem.Spec PySem.W L2 Pw
open PyProof.Rows hiding St
open Evl (sq_of st_of)
variable [Tbs]
/-! ### stories: the instance stands (its attributes never change), its four lists are mine -/
structure StS where
  turned : List (Int × Int × Str)
  lost : List W3
  lived : List (Int × Jb)
  names : List Str
def turnD (p : Int × Int × Str) : PyData := .tuple [.int p.1, .int p.2.1, .str p.2.2]
def toldL (j : Jb) : List PyData := [.str j.t.name, .int j.r.num, .int j.r.arr, .int j.r.rel, .int j.r.work, .int j.ticks] ++ [match j.ended with | none => .none | some e => .int e]
def livedD (q : Int × Jb) : PyData := .tuple ([.int q.1] ++ toldL q.2)
def storyF (til : Int) (t l v n : Addr) (hv : V) : List (Str × V) := [("until", .int til), ("turned", .ref t), ("lost", .ref l), ("lived", .ref v), ("names", .ref n), ("house", hv)]
structure StoryL where
  t : Addr
  l : Addr
  v : Addr
  n : Addr
/-- the story at x, its lists told -/
structure StoryC (K : PySem.W.Frag) (c : Cs) (H0 B H : Hp) (x : Addr) (til : Int) (hv : V) (a : StoryL) (s : StS) : Prop where
  obj : ∃ dx, B x = some (.ins c.Story dx (storyF til a.t a.l a.v a.n hv))
  t : ∃ ys, Cell H0 B H a.t (.lst ys) ∧ Items (DR K turnD) s.turned B ys
  l : ∃ ys, Cell H0 B H a.l (.lst ys) ∧ Items (DR K wD) s.lost B ys
  v : ∃ ys, Cell H0 B H a.v (.lst ys) ∧ Items (DR K livedD) s.lived B ys
  n : ∃ ys, Cell H0 B H a.n (.lst ys) ∧ Items (VR V.str) s.names B ys
  nd : [a.t, a.l, a.v, a.n].Nodup
section
variable {K : PySem.W.Frag} {c : Cs} {H0 B H B' H' : Hp} {x : Addr} {til : Int} {hv : V} {a : StoryL} {s : StS}
/-- nothing of it has changed -/
theorem StoryC.keep (h : StoryC K c H0 B H x til hv a s) (e : Ex B B') (k : ∀ d u, Cell H0 B H d u → Cell H0 B' H' d u) : StoryC K c H0 B' H' x til hv a s := by
  obtain ⟨⟨dx, h1⟩, ⟨y1, c1, i1⟩, ⟨y2, c2, i2⟩, ⟨y3, c3, i3⟩, ⟨y4, c4, i4⟩, nd⟩ := h
  exact ⟨⟨dx, e _ _ h1⟩, ⟨y1, k _ _ c1, Mono.up (P := Items _ _) e i1⟩, ⟨y2, k _ _ c2, Mono.up (P := Items _ _) e i2⟩, ⟨y3, k _ _ c3, Mono.up (P := Items _ _) e i3⟩, ⟨y4, k _ _ c4, Mono.up (P := Items _ _) e i4⟩, nd⟩
end
end K7

set_option Elab.async false
set_option linter.all false
set_option maxRecDepth 100000
set_option maxHeartbeats 4000000
namespace K7
open PySem PySem.Spec PySem.W L2 Pw
open PyProof.Rows hiding St
open Evl (sq_of st_of)
variable [Tbs]
def livedOf (til k : Int) (js : List Jb) : List (Int × Jb) := (js.filter fun j => decide (j.r.arr < til)).map fun j => (k, j)
def unkOf (strange : List W4) (k : Int) : List W3 := (strange.filter fun q => decide (q.1 < k)).map fun q => (q.2.2.2, q.2.1, q.2.2.1)
def spNote (K : PySem.W.Frag) (c : Cs) : Sp := fun vs H Q _ => ∃ (B0 H0 B : Hp) (x : Addr) (til : Int) (hv ev rv : V) (a : StoryL) (s : StS) (ts : List TaskD) (own strange : List W4) (rows : List JR) (k : Int), vs = [.ref x, ev, rv, .int k] ∧ Grow B0 H0 B H ∧ StoryC K c H0 B H x til hv a s ∧ EraAt K c B ev ts own strange ∧ (∀ t ∈ ts, t.secs = []) ∧
  LsOf K (DR K jrD) rows B rv ∧ rows.length ≤ 10000 ∧ (∀ r ∈ rows, ∃ t ∈ ts, t.name = r.name) ∧ GoodW true (rows.map (jobOf ts)) ∧ strange.length ≤ 10000 ∧ s.lived.length ≤ 500000 ∧ s.lost.length ≤ 500000 ∧ s.names.length ≤ 100000 ∧
  ∀ ws v B' H', Steps true til (startW ts rows til) ws → ¬ ws.hour < til → Grow B0 H0 B' H' → Ex B B' → StoryC K c H0 B' H' x til hv a { s with lived := s.lived ++ livedOf til ((s.names.length : Int) - 1) ws.js, lost := s.lost ++ unkOf strange k } → LsOf K (DR K toldD) ws.js B' v → Q v H'
theorem stepW_len (g : Bool) (til : Int) (w : Ws) : (stepW g til w).js.length = w.js.length := by
  unfold stepW
  split
  · rfl
  · simp
theorem steps_len {g : Bool} {til : Int} {u w : Ws} (h : Steps g til u w) : w.js.length = u.js.length := by
  induction h with
  | refl => rfl
  | step _ _ ih => rw [stepW_len, ih]
section
variable {P : Program} {w : World} {K : PySem.W.Frag} {mg : Str → Option Value} {base : Heap} {c : Cs} {f : Addr} {fd : FuncData}
abbrev s_Story_note : Stmt := inClass (top 24) 2
theorem sc_Story_note : FnScope ["self", "era", "rows", "until", "jobs", "trace", "number", "job"] ["self", "era", "rows", "until"] (defScope s_Story_note) := ⟨rfl, rfl, rfl, by decide +kernel, rfl, by decide +kernel, by decide +kernel⟩
/- slots: 0=self 1=era 2=rows 3=until 4=jobs 5=trace 6=number 7=job -/
theorem ok_Story_note (F : Fun K "note" "Story.note" s_Story_note f fd) (T : Txt K mg c) (G_played : Gf P w K mg base 6 "played" ["plan", "rows", "until", "guard"] [.bl true] (Pure (R_played K c))) (G_Era_unknown : Gm P w K mg base 1 c.Era "unknown" ["self", "until"] [] (Pure (R_eraUnknown K c))) :
    FnOk P w K mg base CX0 7 f fd ["self", "era", "rows", "until"] (spNote K c) := by
  refine sp_ok F sc_Story_note (fun vs H Q E ⟨B0, H0, B, x, til, hv, ev, rv, a, s, ts, own, strange, rows, k, h, _⟩ => by rw [h]; rfl) fun cdv A outer s0 Hh E hr => ?_
  refine ⟨_, (pss_cons (ps_asg (pe_g G_played (hr.mono (by decide)) (by rfl) (pa_cons (pe_fld (pv 1) rfl) (pa_cons (pv 2) (pa_cons (pe_fld (pv 0) rfl) pa_nil)))) (pg_tup (by rfl) (pgs_cons (pg_name (i := 4) sc_Story_note.nd rfl (by first | exact Or.inl rfl | exact Or.inr rfl)) (pgs_cons (pg_name (i := 5) sc_Story_note.nd rfl (by first | exact Or.inl rfl | exact Or.inr rfl)) pgs_nil))))
        (pss_cons (ps_set (i := 6) sc_Story_note.nd rfl (by first | exact Or.inl rfl | exact Or.inr rfl) (pe_op op_sub (pe_callB (call_len) (by rfl) T.b_len (by decide +kernel) (pa_cons (pe_fld (pv 0) rfl) pa_nil)) pe_int))
        (pss_cons (ps_expr (pe_bm PySem.F.plainAttrs_list PySem.F.slot_list_extend PySem.F.type_list_extend mt_extend (pe_fld (pv 0) rfl) (pa_cons (pe_lc (own := [("job", 7)]) rfl sc_Story_note.nd (pi_list (pv 4)) (blkOk_by (N := ["self", "era", "rows", "until", "jobs", "trace", "number", "job"]) (sc := defScope s_Story_note) (by decide +kernel)) (fun _ _ _ _ _ => (pg_name (i := 7) sc_Story_note.nd rfl (by first | exact Or.inl rfl | exact Or.inr rfl))) (fun _ _ _ _ _ => pts_one (pt_cmpR op_lt (pe_ix (ix_tupK (K := K) rfl) (pv 7) pe_int (fun _ _ => rfl)) (pe_fldK (K := K) rfl (pv 0) rfl) (nomark _))) (fun _ _ _ _ _ => (pe_op (op_catTK (K := K) rfl) (pe_tup (pa_cons (pv 6) pa_nil)) (pv 7)))) pa_nil)))
        (pss_cons (ps_expr (pe_bm PySem.F.plainAttrs_list PySem.F.slot_list_extend PySem.F.type_list_extend mt_extend (pe_fld (pv 0) rfl) (pa_cons (pe_gm (pv 1) T.c_Era G_Era_unknown (hr.mono (by decide)) (pa_cons (pv 3) pa_nil)) pa_nil)))
        (pss_one (ps_ret (pv 4))))))), fun vs H Q E' ⟨B0, H0, B, x, til, hv, ev, rv, a, s, ts, own, strange, rows, k, hvs, gr, sc, he, hsec, hrows, hrl, hall, G, hsl, hl1, hl2, hl3, kk⟩ => ?_⟩
  subst hvs
  obtain ⟨ea, edx, efs, rfl, hea, mv, ov, sv, rfl, hmv, hov, hsv⟩ := id he
  obtain ⟨xdx, hx⟩ := sc.obj
  refine s_callB gr (vs := [mv, rv, .int til]) (evas_cons (evv_fld (evv_var (i := 1) rfl) (gr.bh _ _ hea) T.c_Era T.n_Era_model rfl) (evas_cons (evv_var (i := 2) rfl) (evas_cons (evv_fld (evv_var (i := 0) rfl) (gr.bh _ _ hx) T.c_Story T.n_Story_until rfl) eva_nil))) ⟨mv, rv, ts, rows, til, true, rfl, hmv, hsec, hrows, hrl, hall, G, rfl⟩ fun pv B1 H1 e1 g1 keep1 hp => ?_
  obtain ⟨ws, st, nlt, pp, xs, rfl, spp, jv, r1, h1, hj, tv, r2, h2, htr, h3⟩ := hp
  cases h3
  subst h1 h2
  have sc1 := sc.keep e1 keep1
  have jl : ws.js.length ≤ 10000 := by rw [steps_len st]; show (rows.map (jobOf ts)).length ≤ _; rw [List.length_map]; exact hrl
  refine evg_tup (B := B1) spp rfl (evgs_cons evg_name (evgs_cons evg_name evgs_nil)) H1 g1.bh _ ?_
  -- number
  obtain ⟨yn, cn, inn⟩ := sc1.n
  have hx1 : B1 x = some (.ins c.Story xdx (storyF til a.t a.l a.v a.n hv)) := e1 _ _ hx
  refine q_rd (Pv := Is (.int ((s.names.length : Int) - 1))) g1.bh.r (evv_cast (evv_I0 (evv_len (Pa := LsOf K (VR V.str) s.names) (evp_fld (evv_var (i := 0) rfl) (g1.bh _ _ hx1) T.c_Story T.n_Story_names rfl ⟨a.n, yn, rfl, cn.at_, Mono.up (P := Items (VR V.str) s.names) g1.bh inn⟩) fun B' v e h H' x' => lenV_seq x' (.inl h)) evv_c) rfl) fun nv H2 e2 hnv => ?_
  cases hnv
  have g2 := g1.ext e2
  have sc2 : StoryC K c H0 B1 H2 x til hv a s := sc1.keep (.refl g1.bh.l) fun d u cd => cd.ext e2
  -- lived
  obtain ⟨yv, cv, iv⟩ := sc2.v
  refine s_extE (R := DR K livedD) (as := livedOf til ((s.names.length : Int) - 1) ws.js) g2 cv (evv_fld (evv_var (i := 0) rfl) hx1 T.c_Story T.n_Story_lived rfl) (by
    unfold livedOf
    refine evp_lcI (K := K) (R := DR K toldD) (S := DR K livedD) (fun j : Jb => decide (j.r.arr < til)) (fun j : Jb => ((s.names.length : Int) - 1, j)) (evi_list (evp_var (i := 4) rfl hj)) (by omega) fun B' y j e hm hy => ?_
    have hy' : Dp K B' y (.tuple (toldL j)) := hy
    refine ⟨_, evg_name, rfl, evt_test (evv_I0 (EvP.imp (evd_ixT (n := 2) (evp_var (i := 7) (P := fun B w => Dp K B w (.tuple (toldL j))) rfl hy') evv_c rfl) fun _ _ _ h => by cases h; rfl) (evv_fld (evv_var (i := 0) rfl) (e _ _ hx1) T.c_Story T.n_Story_until rfl)), fun _ => ?_⟩
    exact evd_catT (ds := [.int ((s.names.length : Int) - 1)]) (es := toldL j) (evd_tup (evds_cons (evd_int (evv_var (i := 6) rfl)) evds_nil) (by simp)) (evp_var (i := 7) (P := fun B w => Dp K B w (.tuple (toldL j))) rfl hy') (by simp) (by simp [toldL]) (by simp [toldL])) (by
      have h1 : yv.length = s.lived.length := Paired.length iv
      have h2 : (livedOf til ((s.names.length : Int) - 1) ws.js).length ≤ ws.js.length := by unfold livedOf; rw [List.length_map]; exact List.length_filter_le _ _
      omega) fun zs B3 H3 e3 keep3 g3 c3 iz => ?_
  have nd := sc.nd
  simp only [List.nodup_cons, List.mem_cons, List.not_mem_nil, or_false, not_or, not_false_eq_true, List.nodup_nil, and_true] at nd
  obtain ⟨⟨n1, n2, n3⟩, ⟨n4, n5⟩, n6⟩ := nd
  obtain ⟨yt, ct, it⟩ := sc2.t
  obtain ⟨yl, cl, il⟩ := sc2.l
  obtain ⟨yn2, cn2, in2⟩ := sc2.n
  have cl3 := keep3 _ _ n4 cl
  -- lost
  refine s_extE (R := DR K wD) (as := unkOf strange k) g3 cl3 (evv_fld (evv_var (i := 0) rfl) (e3 _ _ hx1) T.c_Story T.n_Story_lost rfl) (evp_meth (evv_var (i := 1) rfl) (e3 _ _ (e1 _ _ hea)) rfl (evas_cons (evv_var (i := 3) rfl) eva_nil) fun B' vs e hvs => by
    cases hvs
    exact ⟨_, k, ts, own, strange, rfl, he.up ((e1.trans e3).trans e), hsl, rfl⟩) (by
      have h1 : yl.length = s.lost.length := Paired.length il
      have h2 : (unkOf strange k).length ≤ strange.length := by unfold unkOf; rw [List.length_map]; exact List.length_filter_le _ _
      omega) fun us B4 H4 e4 keep4 g4 c4 iu => ?_
  refine ⟨_, rfl, kk ws jv B4 H4 st nlt g4 ((e1.trans e3).trans e4) ⟨⟨xdx, e4 _ _ (e3 _ _ hx1)⟩, ⟨yt, keep4 _ _ n1 (keep3 _ _ n2 ct), Mono.up (P := Items (DR K turnD) _) (e3.trans e4) it⟩, ⟨yl ++ us, c4, paired_app (Mono.up (P := Items (DR K wD) _) (e3.trans e4) il) iu⟩, ⟨yv ++ zs, keep4 _ _ (Ne.symm n4) c3, paired_app (Mono.up (P := Items (DR K livedD) _) (e3.trans e4) iv) (Mono.up (P := Items (DR K livedD) _) e4 iz)⟩, ⟨yn2, keep4 _ _ (Ne.symm n5) (keep3 _ _ (Ne.symm n6) cn2), Mono.up (P := Items (VR V.str) _) (e3.trans e4) in2⟩, sc.nd⟩ (Mono.up (P := LsOf K (DR K toldD) _) (e3.trans e4) hj)⟩
end
end K7

set_option Elab.async false
set_option linter.all false
set_option maxRecDepth 100000
set_option maxHeartbeats 2000000
namespace Pw
open PySem PySem.Spec PySem.W L2
open PyProof.Rows hiding St
open Evl (sq_of st_of)
variable [Tbs]
/-! ### 29. max(l) of ints -/
theorem foldl_max_le (r : List Int) : ∀ n, n ≤ r.foldl max n ∧ (∀ y ∈ r, y ≤ r.foldl max n) ∧ (r.foldl max n = n ∨ r.foldl max n ∈ r) := by
  induction r with
  | nil => intro n; exact ⟨Int.le_refl _, (fun _ h => nomatch h), Or.inl rfl⟩
  | cons a r ih =>
    intro n
    obtain ⟨h1, h2, h3⟩ := ih (max n a)
    refine ⟨Int.le_trans (Int.le_max_left _ _) h1, fun y hy => ?_, ?_⟩
    · rcases List.mem_cons.mp hy with z | z
      · subst z; exact Int.le_trans (Int.le_max_right _ _) h1
      · exact h2 y z
    · rcases h3 with z | z
      · rcases Int.le_total a n with w | w
        · exact .inl (by show r.foldl max (max n a) = n; rw [z, Int.max_eq_left w])
        · exact .inr (by show r.foldl max (max n a) ∈ a :: r; rw [z, Int.max_eq_right w]; exact List.mem_cons_self)
      · exact .inr (List.mem_cons_of_mem _ z)
theorem evv_maxL {K : PySem.W.Frag} {ta : TE} {σ : L2.St} {B : Hp} {n : Int} {r : List Int} (h : EvP ta σ B (LsOf K (VR V.int) (n :: r))) : EvV (tCB (rMax K) (tCons ta tNil)) σ B (.int (r.foldl max n)) := evp_cb1 h fun B' v e ⟨p, xs, h1, s, it⟩ => by
  subst h1
  have ex : xs = (n :: r).map V.int := items_vals it
  subst ex
  refine evr_now (fun H bh Q q => ⟨p, n :: r, rfl, ex_l bh (sq_of s), Nat.zero_lt_succ _, fun m hm hl => ?_⟩) rfl
  obtain ⟨h1, h2, h3⟩ := foldl_max_le r n
  have hb : r.foldl max n ∈ n :: r := by
    rcases h3 with z | z
    · rw [z]; exact List.mem_cons_self
    · exact List.mem_cons_of_mem _ z
  have e2 : m = r.foldl max n := by
    refine Int.le_antisymm ?_ (hl _ hb)
    rcases List.mem_cons.mp hm with z | z
    · rw [z]; exact h1
    · exact h2 m z
  rw [e2]
  exact q
end Pw

set_option Elab.async false
set_option linter.all false
set_option maxRecDepth 100000
set_option maxHeartbeats 8000000
namespace K7
open PySem PySem.Spec PySem.W L2 Pw
open PyProof.Rows hiding St
open Evl (sq_of st_of)
variable [Tbs]
/-! ### a change -/
def maxI : List Int → Int
  | [] => 0
  | n :: r => r.foldl max n
theorem evv_maxI {K : PySem.W.Frag} {ta : TE} {σ : L2.St} {B : Hp} {ns : List Int} (ne : ns ≠ []) (h : EvP ta σ B (LsOf K (VR V.int) ns)) : EvV (tCB (rMax K) (tCons ta tNil)) σ B (.int (maxI ns)) := by
  cases ns with
  | nil => exact absurd rfl ne
  | cons n r => exact evv_maxL h
def begunOf (til f0 : Int) (js : List Jb) : Int := if inV .non (js.map fun j : Jb => oV j.ended) then til else maxI ((js.map fun j : Jb => j.ended.getD 0) ++ [f0])
/-- the jobs of the old plan | what is held back, and what comes later -/
def oldRows (ts : List TaskD) (own : List W4) (f0 : Int) : List JR := ((letOf ts own f0).filter fun q => decide (q.1.arr ≤ f0)).map fun q => q.1
def heldOf (ts : List TaskD) (own strange : List W4) (f0 : Int) : List W4 := (((letOf ts own f0).filter fun q => decide (q.1.arr > f0)).map fun q => q.2) ++ ((own ++ strange).filter fun q => decide (q.1 ≥ f0))
def anewOf (begun : Int) (ws : List W4) : List W4 := ws.map fun q => (max q.1 begun, q.2.1, q.2.2.1, q.2.2.2)
def lastOf (hs : List Int) (begun : Int) : Int := maxI (hs.filter fun x => decide (x ≤ begun))
theorem ends_int {js : List Jb} (h : inV .non (js.map fun j : Jb => oV j.ended) = false) : (js.map fun j : Jb => oV j.ended) = (js.map fun j : Jb => j.ended.getD 0).map V.int := by
  induction js with
  | nil => rfl
  | cons a r ih =>
    unfold inV at h ih
    rw [List.map_cons, List.any_cons, Bool.or_eq_false_iff] at h
    rw [List.map_cons, List.map_cons, List.map_cons, ih h.2]
    congr 1
    cases e : a.ended with
    | none => rw [e] at h; exact absurd h.1 (by simp [oV, eqV])
    | some z => rfl
theorem flat_oV (js : List Jb) : (js.map fun j : Jb => oV j.ended).all flatV = true := by
  rw [List.all_eq_true]
  intro x hx
  obtain ⟨j, _, rfl⟩ := List.mem_map.mp hx
  cases j.ended <;> rfl
theorem letOf_len {ts : List TaskD} {own : List W4} {til : Int} : (letOf ts own til).length ≤ ts.length * own.length := by
  unfold letOf
  refine Nat.le_trans (flat_len_le (m := own.length) fun t ht => ?_) (Nat.le_of_eq (by rw [(byRank_perm ts).length_eq]))
  rw [List.length_map, List.length_zip, srt_len]
  exact Nat.le_trans (Nat.min_le_right _ _) (mineOf_len _ _ _)
/-- what is told of a change: the next plan's name (or none), its beginning, its wishes -/
def ChangeIs (K : PySem.W.Frag) (name : V) (begun : Int) (ws : List W4) : Hp → V → Prop := IsU K (ConsP (Is name) (ConsP (Is (.int begun)) (ConsP (LsOf K (DR K w4D) ws) (Iss []))))
def spChanged (K : PySem.W.Frag) (c : Cs) : Sp := fun vs H Q _ => ∃ (B0 H0 B : Hp) (x : Addr) (til : Int) (hv ev hsv : V) (a : StoryL) (s : StS) (h : Hs) (ts : List TaskD) (own strange : List W4) (f0 : Int) (hr : List Int), vs = [.ref x, ev, hsv] ∧ Grow B0 H0 B H ∧ StoryC K c H0 B H x til hv a s ∧ HouseAt K c B hv h ∧ EraAt K c B ev ts own strange ∧ Unlike ts ∧
  LsOf K (VR V.int) (f0 :: hr) B hsv ∧ hr.length ≤ 10000 ∧ (∀ y ∈ f0 :: hr, ∃ n, valV (wantedK h.wanted) (.inl y) = some (.str n)) ∧ own.length ≤ 100 ∧ strange.length ≤ 100 ∧ (∀ q ∈ own, 1 ≤ q.2.2.1) ∧ GoodW true ((oldRows ts own f0).map (jobOf ts)) ∧ s.lived.length ≤ 400000 ∧ s.lost.length ≤ 400000 ∧ s.names.length ≤ 10000 ∧ s.turned.length ≤ 10000 ∧
  ∀ ws v B' H', Steps true til (startW ts (oldRows ts own f0) til) ws → ¬ ws.hour < til → Grow B0 H0 B' H' → Ex B B' →
    (begunOf til f0 ws.js ≥ til → StoryC K c H0 B' H' x til hv a { s with lived := s.lived ++ livedOf til ((s.names.length : Int) - 1) ws.js, lost := s.lost ++ unkOf strange f0 } → ChangeIs K .non (begunOf til f0 ws.js) [] B' v → Q v H') ∧
    (¬ begunOf til f0 ws.js ≥ til → ∀ n, valV (wantedK h.wanted) (.inl (lastOf (f0 :: hr) (begunOf til f0 ws.js))) = some (.str n) →
      StoryC K c H0 B' H' x til hv a { s with turned := s.turned ++ [(f0, begunOf til f0 ws.js, n)], lived := s.lived ++ livedOf til ((s.names.length : Int) - 1) ws.js, lost := s.lost ++ unkOf strange f0 } → ChangeIs K (.str n) (begunOf til f0 ws.js) (anewOf (begunOf til f0 ws.js) (heldOf ts own strange f0)) B' v → Q v H')
end K7

set_option Elab.async false
set_option linter.all false
set_option maxRecDepth 100000
set_option maxHeartbeats 8000000
namespace K7
open PySem PySem.Spec PySem.W L2 Pw
open PyProof.Rows hiding St
open Evl (sq_of st_of)
variable [Tbs]
section
variable {P : Program} {w : World} {K : PySem.W.Frag} {mg : Str → Option Value} {base : Heap} {c : Cs} {f : Addr} {fd : FuncData}
theorem jobsOf_name {t : TaskD} {g : Bool} : ∀ {rows : List (Int × Int)} {last : Option Int} {k : Nat} {r : JR}, r ∈ jobsOf t g last k rows → r.name = t.name
  | [], _, _, _, h => nomatch h
  | p :: rows, _, _, r, h => by
    rcases List.mem_cons.mp h with z | z
    · rw [z]
    · exact jobsOf_name z
theorem oldRows_name {ts : List TaskD} {own : List W4} {f0 : Int} {r : JR} (nd : (ts.map (·.name)).Nodup) (h : r ∈ oldRows ts own f0) : ∃ t ∈ ts, t.name = r.name := by
  obtain ⟨q, hq, rfl⟩ := List.mem_map.mp h
  obtain ⟨t, ht, hm⟩ := List.mem_flatMap.mp (List.mem_filter.mp hq).1
  obtain ⟨z, hz, rfl⟩ := List.mem_map.mp hm
  have htm : t ∈ ts := (byRank_perm ts).mem_iff.mp ht
  have h1 : z.1 ∈ rowsOf ts t own f0 := (List.of_mem_zip hz).1
  unfold rowsOf at h1
  rw [letIn_one nd htm fun q hq => by obtain ⟨z, _, rfl⟩ := List.mem_map.mp hq; rfl] at h1
  exact ⟨t, htm, (jobsOf_name h1).symm⟩
theorem maxI_ge {ns : List Int} {x : Int} (h : x ∈ ns) : x ≤ maxI ns := by
  cases ns with
  | nil => cases h
  | cons n r =>
    obtain ⟨h1, h2, _⟩ := foldl_max_le r n
    rcases List.mem_cons.mp h with z | z
    · rw [z]; exact h1
    · exact h2 x z
theorem maxI_mem {ns : List Int} (h : ns ≠ []) : maxI ns ∈ ns := by
  cases ns with
  | nil => exact absurd rfl h
  | cons n r =>
    rcases (foldl_max_le r n).2.2 with z | z
    · show r.foldl max n ∈ n :: r
      rw [z]; exact List.mem_cons_self
    · exact List.mem_cons_of_mem _ z
theorem begun_ge {til f0 : Int} {js : List Jb} (h : ¬ begunOf til f0 js ≥ til) : f0 ≤ begunOf til f0 js := by
  unfold begunOf at h ⊢
  split at h
  · exact absurd (Int.le_refl _) h
  · rename_i q
    rw [if_neg q]
    exact maxI_ge (by simp)
theorem s_methA {sp : Sp} {te : TE} {tr : TA} {σ : L2.St} {B H : Hp} {E : XK} {Q : VK} {C a dx : Addr} {m : Str} {fs : List (Str × V)} {A : Hp → List V → Prop} [Mono A] (bh : Ex B H) (ho : EvV te σ B (.ref a)) (ha : B a = some (.ins C dx fs)) (l : fs.lookup m = none) (h : EvA tr σ B A)
    (k : ∀ B' H' vs, Grow B H B' H' → A B' vs → sp (.ref a :: vs) H' Q E) : tMeth C m sp [] E te tr σ H Q := ho H bh _ fun w B1 H1 g1 e => by
  cases e
  refine ⟨a, dx, fs, rfl, g1.bh _ _ (g1.b _ _ ha), l, h.mono g1.b H1 g1.bh _ fun vs B2 H2 g2 p => ?_⟩
  show sp (V.ref a :: (vs ++ [])) H2 Q E
  rw [List.append_nil]
  exact k B2 H2 vs (g1.trans g2) p
abbrev s_Story_changed : Stmt := inClass (top 24) 3
theorem sc_Story_changed : FnScope ["self", "era", "hours", "first", "let", "jobs", "ends", "begun", "last", "name", "held", "row", "wish", "job", "hour", "task", "work", "asked"] ["self", "era", "hours"] (defScope s_Story_changed) := ⟨rfl, rfl, rfl, by decide +kernel, rfl, by decide +kernel, by decide +kernel⟩
/- slots: 0=self 1=era 2=hours 3=first 4=let 5=jobs 6=ends 7=begun 8=last 9=name 10=held 11=row 12=wish 13=job 14=hour 15=task 16=work 17=asked -/
theorem ok_Story_changed (F : Fun K "changed" "Story.changed" s_Story_changed f fd) (T : Txt K mg c) (G_Era_let : Gm P w K mg base 4 c.Era "let" ["self", "until"] [] (Pure (R_eraLet K c))) (G_Story_note : Gm P w K mg base 7 c.Story "note" ["self", "era", "rows", "until"] [] (spNote K c)) :
    FnOk P w K mg base CX0 8 f fd ["self", "era", "hours"] (spChanged K c) := by
  refine sp_ok F sc_Story_changed (fun vs H Q E ⟨B0, H0, B, x, til, hv, ev, hsv, a, s, h, ts, own, strange, f0, hr, e, _⟩ => by rw [e]; rfl) fun cdv A outer s0 Hh E hr => ?_
  have hu := hu_of hr
  refine ⟨_, (pss_cons (ps_set (i := 3) sc_Story_changed.nd rfl (by first | exact Or.inl rfl | exact Or.inr rfl) (pe_ix ix_list (pv 2) pe_int (fun _ _ => rfl)))
        (pss_cons (ps_set (i := 4) sc_Story_changed.nd rfl (by first | exact Or.inl rfl | exact Or.inr rfl) (pe_gm (pv 1) T.c_Era G_Era_let (hr.mono (by decide)) (pa_cons (pv 3) pa_nil)))
        (pss_cons (ps_set (i := 5) sc_Story_changed.nd rfl (by first | exact Or.inl rfl | exact Or.inr rfl) (pe_gm (pv 0) T.c_Story G_Story_note (hr.mono (by decide)) (pa_cons (pv 1) (pa_cons (pe_lc (own := [("row", 11), ("wish", 12)]) rfl sc_Story_changed.nd (pi_list (pv 4)) (blkOk_by (N := ["self", "era", "hours", "first", "let", "jobs", "ends", "begun", "last", "name", "held", "row", "wish", "job", "hour", "task", "work", "asked"]) (sc := defScope s_Story_changed) (by decide +kernel)) (fun _ _ _ _ _ => (pg_tupK (K := K) (n := 2) rfl (by rfl) (pgs_cons (pg_name (i := 11) sc_Story_changed.nd rfl (by first | exact Or.inl rfl | exact Or.inr rfl)) (pgs_cons (pg_name (i := 12) sc_Story_changed.nd rfl (by first | exact Or.inl rfl | exact Or.inr rfl)) pgs_nil)))) (fun _ _ _ _ _ => pts_one (pt_cmpR op_le (pe_ix (ix_tupK (K := K) rfl) (pv 11) pe_int (fun _ _ => rfl)) (pv 3) (nomark _))) (fun _ _ _ _ _ => (pv 11))) (pa_cons (pv 3) pa_nil)))))
        (pss_cons (ps_setLc (i := 6) (own := [("job", 13)]) rfl sc_Story_changed.nd rfl rfl (sw_true rfl rfl rfl (by decide +kernel)) (pi_list (pv 5)) (blkOk_by (N := ["self", "era", "hours", "first", "let", "jobs", "ends", "begun", "last", "name", "held", "row", "wish", "job", "hour", "task", "work", "asked"]) (sc := defScope s_Story_changed) (by decide +kernel)) (fun _ _ _ _ _ => (pg_name (i := 13) sc_Story_changed.nd rfl (by first | exact Or.inl rfl | exact Or.inr rfl))) (fun _ _ _ _ _ => pts_nil) (fun _ _ _ _ _ => (pe_ix (ix_tupK (K := K) rfl) (pv 13) pe_int (fun _ _ => rfl))))
        (pss_cons (ps_set (i := 7) sc_Story_changed.nd rfl (by first | exact Or.inl rfl | exact Or.inr rfl) (pe_ifExp (pt_cmpR op_in_seq pe_non (pv 6) (by rfl)) (pe_fld (pv 0) rfl) (pe_callB (cr_max rfl) (by rfl) T.b_max (by decide +kernel) (pa_cons (pe_op op_cat (pv 6) (pe_lst (pa_cons (pv 3) pa_nil))) pa_nil))))
        (pss_cons (ps_if (pt_cmpR op_ge (pv 7) (pe_fld (pv 0) rfl) (nomark _)) (pss_one (ps_ret (pe_tup (pa_cons pe_non (pa_cons (pv 7) (pa_cons (pe_lst pa_nil) pa_nil)))))) pss_nil)
        (pss_cons (ps_set (i := 8) sc_Story_changed.nd rfl (by first | exact Or.inl rfl | exact Or.inr rfl) (pe_callB (cr_max rfl) (by rfl) T.b_max (by decide +kernel) (pa_cons (pe_lc (own := [("hour", 14)]) rfl sc_Story_changed.nd (pi_listK (K := K) rfl (pv 2)) (blkOk_by (N := ["self", "era", "hours", "first", "let", "jobs", "ends", "begun", "last", "name", "held", "row", "wish", "job", "hour", "task", "work", "asked"]) (sc := defScope s_Story_changed) (by decide +kernel)) (fun _ _ _ _ _ => (pg_name (i := 14) sc_Story_changed.nd rfl (by first | exact Or.inl rfl | exact Or.inr rfl))) (fun _ _ _ _ _ => pts_one (pt_cmpR op_le (pv 14) (pv 7) (nomark _))) (fun _ _ _ _ _ => (pv 14))) pa_nil)))
        (pss_cons (ps_set (i := 9) sc_Story_changed.nd rfl (by first | exact Or.inl rfl | exact Or.inr rfl) (pe_dget hu (pe_fld (pe_fld (pv 0) rfl) rfl) (pv 8) (fun _ _ => rfl)))
        (pss_cons (ps_expr (pe_bm PySem.F.plainAttrs_list PySem.F.slot_list_append PySem.F.type_list_append mt_append (pe_fld (pv 0) rfl) (pa_cons (pe_tup (pa_cons (pv 3) (pa_cons (pv 7) (pa_cons (pv 9) pa_nil)))) pa_nil)))
        (pss_cons (ps_setLc (i := 10) (own := [("row", 11), ("wish", 12)]) rfl sc_Story_changed.nd rfl rfl (sw_true rfl rfl rfl (by decide +kernel)) (pi_list (pv 4)) (blkOk_by (N := ["self", "era", "hours", "first", "let", "jobs", "ends", "begun", "last", "name", "held", "row", "wish", "job", "hour", "task", "work", "asked"]) (sc := defScope s_Story_changed) (by decide +kernel)) (fun _ _ _ _ _ => (pg_tupK (K := K) (n := 2) rfl (by rfl) (pgs_cons (pg_name (i := 11) sc_Story_changed.nd rfl (by first | exact Or.inl rfl | exact Or.inr rfl)) (pgs_cons (pg_name (i := 12) sc_Story_changed.nd rfl (by first | exact Or.inl rfl | exact Or.inr rfl)) pgs_nil)))) (fun _ _ _ _ _ => pts_one (pt_cmpR op_gt (pe_ix (ix_tupK (K := K) rfl) (pv 11) pe_int (fun _ _ => rfl)) (pv 3) (nomark _))) (fun _ _ _ _ _ => (pv 12)))
        (pss_cons (ps_expr (pe_bm PySem.F.plainAttrs_list PySem.F.slot_list_extend PySem.F.type_list_extend mt_extend (pv 10) (pa_cons (pe_lc (own := [("wish", 12)]) rfl sc_Story_changed.nd (pi_list (pe_op op_cat (pe_fld (pv 1) rfl) (pe_fld (pv 1) rfl))) (blkOk_by (N := ["self", "era", "hours", "first", "let", "jobs", "ends", "begun", "last", "name", "held", "row", "wish", "job", "hour", "task", "work", "asked"]) (sc := defScope s_Story_changed) (by decide +kernel)) (fun _ _ _ _ _ => (pg_name (i := 12) sc_Story_changed.nd rfl (by first | exact Or.inl rfl | exact Or.inr rfl))) (fun _ _ _ _ _ => pts_one (pt_cmpR op_ge (pe_ix (ix_tupK (K := K) rfl) (pv 12) pe_int (fun _ _ => rfl)) (pv 3) (nomark _))) (fun _ _ _ _ _ => (pv 12))) pa_nil)))
        (pss_one (ps_ret (pe_tup (pa_cons (pv 9) (pa_cons (pv 7) (pa_cons (pe_lc (own := [("hour", 14), ("task", 15), ("work", 16), ("asked", 17)]) rfl sc_Story_changed.nd (pi_list (pv 10)) (blkOk_by (N := ["self", "era", "hours", "first", "let", "jobs", "ends", "begun", "last", "name", "held", "row", "wish", "job", "hour", "task", "work", "asked"]) (sc := defScope s_Story_changed) (by decide +kernel)) (fun _ _ _ _ _ => (pg_tupK (K := K) (n := 4) rfl (by rfl) (pgs_cons (pg_name (i := 14) sc_Story_changed.nd rfl (by first | exact Or.inl rfl | exact Or.inr rfl)) (pgs_cons (pg_name (i := 15) sc_Story_changed.nd rfl (by first | exact Or.inl rfl | exact Or.inr rfl)) (pgs_cons (pg_name (i := 16) sc_Story_changed.nd rfl (by first | exact Or.inl rfl | exact Or.inr rfl)) (pgs_cons (pg_name (i := 17) sc_Story_changed.nd rfl (by first | exact Or.inl rfl | exact Or.inr rfl)) pgs_nil)))))) (fun _ _ _ _ _ => pts_nil) (fun _ _ _ _ _ => (pe_tup (pa_cons (pe_callB (call_max2 rfl) (by rfl) T.b_max (by decide +kernel) (pa_cons (pv 14) (pa_cons (pv 7) pa_nil))) (pa_cons (pv 15) (pa_cons (pv 16) (pa_cons (pv 17) pa_nil))))))) pa_nil))))))))))))))))), fun vs H Q E' ⟨B0, H0, B, x, til, hv, ev, hsv, a, s, h, ts, own, strange, f0, hrs, hvs, gr, sc, hh, he, U, hhs, hhl, hwant, hol, hsl, hwk, G, l1, l2, l3, l4, kk⟩ => ?_⟩
  subst hvs
  obtain ⟨ea, edx, efs, rfl, hea, mv, ov, sv, rfl, hmv, hov, hsv'⟩ := id he
  obtain ⟨xdx, hx⟩ := sc.obj
  -- first
  refine q_asg (Pv := Is (.int f0)) gr (EvP.imp (evd_ixL (n := 0) (d := .int f0) (EvP.imp (evp_var (i := 2) rfl hhs) fun _ _ _ z => ls_data z) evv_c rfl) fun _ _ _ z => by cases z; rfl) fun fv B1 H1 g1 g1' hfv => ?_
  cases hfv
  -- let
  have he1 : EraAt K c B1 (.ref ea) ts own strange := he.up g1'.b
  refine q_asg (Pv := LsOf K (DR K lD) (letOf ts own f0)) g1 (evp_meth (evv_var (i := 1) rfl) (g1'.b _ _ hea) rfl (evas_cons (evv_var (i := 3) rfl) eva_nil) fun B' vs e hvs => by
    cases hvs
    exact ⟨_, f0, ts, own, strange, rfl, he1.up e, U, by omega, hwk, rfl⟩) fun lv B2 H2 g2 g2' hlv => ?_
  have e02 := g1'.b.trans g2'.b
  have ll : (letOf ts own f0).length ≤ 6000 := Nat.le_trans letOf_len (Nat.le_trans (Nat.mul_le_mul U.len hol) (by decide))
  have sc2 : StoryC K c H0 B2 H2 x til hv a s := sc.keep e02 fun d u cd => (cd.grow g1').grow g2'
  have hx2 : B2 x = some (.ins c.Story xdx (storyF til a.t a.l a.v a.n hv)) := e02 _ _ hx
  have he2 : EraAt K c B2 (.ref ea) ts own strange := he.up e02
  -- jobs = self.note(era, [row ..], first)
  have item : ∀ (B' : Hp) (y : V) (q : JR × W4), DR K lD B' y q → ∃ T' r' w', y = .ref T' ∧ SqT K B' T' [r', w'] ∧ Dp K B' r' (jrD q.1) ∧ Dp K B' w' (w4D q.2) := fun B' y q hy => by
    cases (show Dp K B' y (.tuple [jrD q.1, w4D q.2]) from hy) with
    | tup st da =>
      cases da with
      | cons d1 da =>
        cases da with
        | cons d2 da =>
          cases da
          exact ⟨_, _, _, rfl, st, d1, d2⟩
  have hrowsE : EvP (tLc (iList K (tVar 4)) (gTup K 2 (gCons (gName 11) (gCons (gName 12) gNil))) (tTest (tOp (rI0 fun i j => .bl (decide (i ≤ j))) (tOp (rIxT K) (tVar 11) (tC (.int 3))) (tVar 3))) (tVar 11) [11, 12]) [some (.ref x), some (.ref ea), some hsv, some (.int f0), some lv, none, none, none, none, none, none, none, none, none, none, none, none, none] B2 (LsOf K (DR K jrD) (oldRows ts own f0)) := by
    unfold oldRows
    refine evp_lcI (K := K) (R := DR K lD) (S := DR K jrD) (fun q : JR × W4 => decide (q.1.arr ≤ f0)) (fun q : JR × W4 => q.1) (evi_list (evp_var (i := 4) rfl hlv)) (by omega) fun B' y q e hq hy => ?_
    obtain ⟨T', r', w', rfl, st, d1, d2⟩ := item B' y q hy
    exact ⟨_, evg_tup st rfl (evgs_cons evg_name (evgs_cons evg_name evgs_nil)), rfl, evt_test (evv_I0 (EvP.imp (evd_ixT (n := 3) (evp_var (i := 11) (P := fun B w => Dp K B w (jrD q.1)) rfl d1) evv_c rfl) fun _ _ _ z => by cases z; rfl) (evv_var (i := 3) rfl)), fun _ => evp_var (i := 11) rfl d1⟩
  refine s_methA (A := ConsP (Is (.ref ea)) (ConsP (LsOf K (DR K jrD) (oldRows ts own f0)) (ConsP (Is (.int f0)) (Iss [])))) g2.bh (evv_var (i := 0) rfl) hx2 rfl (eva_cons (evv_var (i := 1) rfl) fun B' e => eva_cons (P := LsOf K (DR K jrD) (oldRows ts own f0)) (hrowsE.mono e) fun B'' e' => eva_cons (evv_var (i := 3) rfl) fun B3 e3 => eva_nil) fun B3 H3 vs g3 ⟨v1, r1, h1, h2, ⟨rv, r2, h3, hrv, ⟨v3, r3, h5, h6, h7⟩⟩⟩ => ?_
  cases h7
  cases h6
  cases h2
  subst h1 h3 h5
  have e03 := e02.trans g3.b
  have g03 := g2.trans g3
  refine ⟨B0, H0, B3, x, til, hv, .ref ea, rv, a, s, ts, own, strange, oldRows ts own f0, f0, rfl, g03, sc2.keep g3.b fun d u cd => cd.grow g3, he.up e03, U.secs, hrv, ?_, ?_, G, by omega, by omega, by omega, by omega, fun ws jv B4 H4 st nlt g4 e4 sc4 hjv => ?_⟩
  · unfold oldRows
    rw [List.length_map]
    exact Nat.le_trans (List.length_filter_le _ _) (by omega)
  · exact fun r hr => oldRows_name U.names hr
  have e04 := e03.trans e4
  have jl : ws.js.length ≤ 6000 := by
    rw [steps_len st]
    show ((oldRows ts own f0).map (jobOf ts)).length ≤ _
    unfold oldRows
    rw [List.length_map, List.length_map]
    exact Nat.le_trans (List.length_filter_le _ _) ll
  -- ends
  refine q_asg (Pv := LsOf K (VR fun j : Jb => oV j.ended) ws.js) g4 (EvP.imp (evp_lcA (K := K) (R := DR K toldD) (S := VR fun j : Jb => oV j.ended) (fun j : Jb => j) (evi_list (evp_var (i := 5) rfl hjv)) (by omega) fun B' y j e hm hy => ⟨_, evg_name, rfl, EvP.imp (evd_ixT (n := 6) (d := match j.ended with | none => .none | some e => .int e) (evp_var (i := 13) (P := fun B w => Dp K B w (.tuple (toldL j))) rfl hy) evv_c rfl) fun _ _ _ z => by
    cases he : j.ended with
    | none => rw [he] at z; cases z; show V.non = oV j.ended; rw [he]; rfl
    | some k => rw [he] at z; cases z; show V.int k = oV j.ended; rw [he]; rfl⟩) fun _ _ _ z => by rw [List.map_id'] at z; exact z) fun nv B5 H5 g5 g5' hen => ?_
  have hx5 : B5 x = some (.ins c.Story xdx (storyF til a.t a.l a.v a.n hv)) := (e04.trans g5'.b) _ _ hx
  refine q_asg (Pv := Is (.int (begunOf til f0 ws.js))) g5 (evv_cast (evv_if (b := inV .non (ws.js.map fun j : Jb => oV j.ended)) (x := .int til) (y := .int (maxI ((ws.js.map fun j : Jb => j.ended.getD 0) ++ [f0]))) (evt_eq (evt_test (evv_in (neg := false) (xs := ws.js.map fun j : Jb => oV j.ended) evv_c (EvP.imp (evp_var (i := 6) rfl hen) fun B' v _ ⟨p, xs, h1, h2, h3⟩ => ⟨p, xs, h1, h2, items_vals h3⟩) rfl (flat_oV _))) rfl) (fun _ => evv_fld (evv_var (i := 0) rfl) hx5 T.c_Story T.n_Story_until rfl) fun hb => evv_maxI (by simp) (evp_cat (R := VR V.int) (as := ws.js.map fun j : Jb => j.ended.getD 0) (bs := [f0]) (evp_var (i := 6) rfl (by
    obtain ⟨p, xs, h1, h2, h3⟩ := hen
    refine ⟨p, xs, h1, h2, ?_⟩
    have ex : xs = (ws.js.map fun j : Jb => j.ended.getD 0).map V.int := by rw [← ends_int hb]; exact items_vals h3
    subst ex
    exact items_vr)) (evp_lstV (fe := V.int) (as := [f0]) (evas_cons (evv_var (i := 3) rfl) eva_nil) (by simp)) (by rw [List.length_map]; simp; omega))) (by
    unfold begunOf
    split <;> rfl)) fun bv B6 H6 g6 g6' hbv => ?_
  cases hbv
  have e06 := (e04.trans g5'.b).trans g6'.b
  have sc6 := sc4.keep (g5'.b.trans g6'.b) fun d u cd => (cd.grow g5').grow g6'
  have hx6 : B6 x = some (.ins c.Story xdx (storyF til a.t a.l a.v a.n hv)) := e06 _ _ hx
  by_cases hb : begunOf til f0 ws.js ≥ til
  · -- it has not begun
    refine q_ifH (b := true) g6.bh.r (evt_eq (evt_test (evv_I0 (evv_var (i := 7) rfl) (evv_fld (evv_var (i := 0) rfl) (g6.bh _ _ hx6) T.c_Story T.n_Story_until rfl))) (by rw [decide_eq_true hb])) (fun _ H7 e7 => ?_) fun z => by cases z
    refine (evp_tup (K := K) (A := ConsP (Is .non) (ConsP (Is (.int (begunOf til f0 ws.js))) (ConsP (LsOf K (DR K w4D) ([] : List W4)) (Iss [])))) (eva_cons evv_c fun B' e => eva_cons (evv_var (i := 7) rfl) fun B'' e' => eva_cons (P := LsOf K (DR K w4D) ([] : List W4)) (EvP.imp (evp_lstV (K := K) (fe := V.int) (as := []) eva_nil (by simp)) fun _ _ _ ⟨p, xs, h1, h2, h3⟩ => ⟨p, xs, h1, h2, by cases h3; exact .nil⟩) fun B3 e3 => eva_nil) fun B' vs ⟨_, _, h1, _, ⟨_, _, h2, _, ⟨_, _, h3, _, h4⟩⟩⟩ => by cases h4; subst h1 h2 h3; exact (by decide : 3 ≤ sizeLine)) H7 (g6.ext e7).bh _ fun rv7 B8 H8 g8 hr8 => ?_
    exact (kk ws rv7 B8 H8 st nlt ((g6.ext e7).trans g8) (e06.trans g8.b)).1 hb (sc6.keep g8.b fun d u cd => (cd.ext e7).grow g8) hr8
  refine q_ifH (b := false) g6.bh.r (evt_eq (evt_test (evv_I0 (evv_var (i := 7) rfl) (evv_fld (evv_var (i := 0) rfl) (g6.bh _ _ hx6) T.c_Story T.n_Story_until rfl))) (by rw [decide_eq_false hb])) (fun z => by cases z) fun _ H7 e7 => ?_
  have fb := begun_ge hb
  have hhs6 : LsOf K (VR V.int) (f0 :: hrs) B6 hsv := Mono.up (P := LsOf K (VR V.int) (f0 :: hrs)) e06 hhs
  have lne : ((f0 :: hrs).filter fun y => decide (y ≤ begunOf til f0 ws.js)) ≠ [] := by
    rw [List.filter_cons, if_pos (decide_eq_true fb)]
    simp
  refine q_asg (Pv := Is (.int (lastOf (f0 :: hrs) (begunOf til f0 ws.js)))) (g6.ext e7) (evv_maxI lne (EvP.imp (evp_lcI (K := K) (R := VR V.int) (S := VR V.int) (fun y : Int => decide (y ≤ begunOf til f0 ws.js)) (fun y : Int => y) (evi_list (evp_var (i := 2) rfl hhs6)) (by simp; omega) fun B' y n e hm hy => ⟨_, evg_name, rfl, evt_test (evv_I0 (by subst hy; exact evv_var (i := 14) rfl) (evv_var (i := 7) rfl)), fun _ => by subst hy; exact evv_var (i := 14) rfl⟩) fun _ _ _ z => by rw [List.map_id'] at z; exact z)) fun mv8 B8 H8 g8 g8' hl8 => ?_
  cases hl8
  have g68 := (g6.ext e7).trans g8'
  have e08 := e06.trans g8'.b
  have hx8 : B8 x = some (.ins c.Story xdx (storyF til a.t a.l a.v a.n hv)) := e08 _ _ hx
  have sc8 := sc6.keep g8'.b fun d u cd => (cd.ext e7).grow g8'
  have lin : lastOf (f0 :: hrs) (begunOf til f0 ws.js) ∈ f0 :: hrs := (List.mem_filter.mp (maxI_mem lne)).1
  obtain ⟨n, hn⟩ := hwant _ lin
  obtain ⟨hoa, hdx, hfs, rfl, hha, pd, hvv, wd, rfl, hpm, hhe, hwd⟩ := id hh
  -- name
  refine q_asg (Pv := Is (.str n)) g8 (evp_dget (k := .inl (lastOf (f0 :: hrs) (begunOf til f0 ws.js))) (evv_fld (evv_fld (evv_var (i := 0) rfl) hx8 T.c_Story T.n_Story_house rfl) (e08 _ _ hha) T.c_House T.n_House_wanted rfl) (e08 _ _ hwd) (evv_var (i := 8) rfl) hn rfl) fun nv9 B9 H9 g9 g9' hn9 => ?_
  cases hn9
  have sc9 := sc8.keep g9'.b fun d u cd => cd.grow g9'
  have hx9 : B9 x = some (.ins c.Story xdx (storyF til a.t a.l a.v a.n (.ref hoa))) := (e08.trans g9'.b) _ _ hx
  obtain ⟨yt, ct, it⟩ := sc9.t
  have ytl : yt.length = s.turned.length := Paired.length it
  -- turned
  refine q_appE (Pv := fun B' w => Dp K B' w (turnD (f0, begunOf til f0 ws.js, n))) g9 ct (evv_fld (evv_var (i := 0) rfl) hx9 T.c_Story T.n_Story_turned rfl) (evd_tup (K := K) (ds := [.int f0, .int (begunOf til f0 ws.js), .str n]) (evds_cons (evd_int (evv_var (i := 3) rfl)) (evds_cons (evd_int (evv_var (i := 7) rfl)) (evds_cons (evd_str (evv_var (i := 9) rfl)) evds_nil))) (by simp)) (by omega) fun w10 B10 H10 e10 keep10 g10 c10 p10 => ?_
  have nd := sc.nd
  simp only [List.nodup_cons, List.mem_cons, List.not_mem_nil, or_false, not_or, not_false_eq_true, List.nodup_nil, and_true] at nd
  obtain ⟨⟨n1, n2, n3⟩, ⟨n4, n5⟩, n6⟩ := nd
  have e0A := (e08.trans g9'.b).trans e10
  -- held
  have hlvA : LsOf K (DR K lD) (letOf ts own f0) B10 lv := Mono.up (P := LsOf K (DR K lD) (letOf ts own f0)) (((((g3.b.trans e4).trans g5'.b).trans g6'.b).trans g8'.b).trans (g9'.b.trans e10)) hlv
  have he10 : EraAt K c B10 (.ref ea) ts own strange := he.up e0A
  refine q_lcM (σ := [some (.ref x), some (.ref ea), some hsv, some (.int f0), some lv, some jv, some nv, some (.int (begunOf til f0 ws.js)), some (.int (lastOf (f0 :: hrs) (begunOf til f0 ws.js))), some (.str n), none, none, none, none, none, none, none, none]) (R := DR K lD) (S := DR K w4D) g10 (fun q : JR × W4 => decide (q.1.arr > f0)) (fun q : JR × W4 => q.2) (evi_list (evp_var (i := 4) rfl hlvA)) (by omega) (fun B' y q e hq hy => ?_) fun hl yh B11 H11 nhl g11' g11 c11 it11 => ?_
  · obtain ⟨T', r', w', rfl, st, d1, d2⟩ := item B' y q hy
    exact ⟨_, evg_tup st rfl (evgs_cons evg_name (evgs_cons evg_name evgs_nil)), rfl, evt_test (evv_I0 (EvP.imp (evd_ixT (n := 3) (evp_var (i := 11) (P := fun B w => Dp K B w (jrD q.1)) rfl d1) evv_c rfl) fun _ _ _ z => by cases z; rfl) (evv_var (i := 3) rfl)), fun _ => evp_var (i := 12) rfl d2⟩
  have hea11 := (e0A.trans g11'.b) _ _ hea
  have yhl : yh.length ≤ 6000 := by
    rw [show yh.length = _ from Paired.length it11, List.length_map]
    exact Nat.le_trans (List.length_filter_le _ _) ll
  -- held.extend(..)
  refine q_extE (σ := [some (.ref x), some (.ref ea), some hsv, some (.int f0), some lv, some jv, some nv, some (.int (begunOf til f0 ws.js)), some (.int (lastOf (f0 :: hrs) (begunOf til f0 ws.js))), some (.str n), some (.ref hl), none, none, none, none, none, none, none]) (R := DR K w4D) (as := ((own ++ strange).filter fun q => decide (q.1 ≥ f0))) g11 c11 (evv_var (i := 10) rfl) (EvP.imp (evp_lcI (K := K) (R := DR K w4D) (S := DR K w4D) (fun q : W4 => decide (q.1 ≥ f0)) (fun q : W4 => q) (evi_list (evp_cat (R := DR K w4D) (as := own) (bs := strange) (evp_fld (P := LsOf K (DR K w4D) own) (evv_var (i := 1) rfl) hea11 T.c_Era T.n_Era_own rfl (Mono.up (P := LsOf K (DR K w4D) own) (e0A.trans g11'.b) hov)) (evp_fld (P := LsOf K (DR K w4D) strange) (evv_var (i := 1) rfl) hea11 T.c_Era T.n_Era_strange rfl (Mono.up (P := LsOf K (DR K w4D) strange) (e0A.trans g11'.b) hsv')) (by omega))) (by rw [List.length_append]; omega) fun B' y q e hq hy => ?_) fun _ _ _ z => by rw [List.map_id'] at z; exact z) (by
      have : ((own ++ strange).filter fun q => decide (q.1 ≥ f0)).length ≤ (own ++ strange).length := List.length_filter_le _ _
      rw [List.length_append] at this
      omega) fun zs B12 H12 e12 keep12 g12 c12 it12 => ?_
  · exact ⟨_, evg_name, rfl, evt_test (evv_I0 (EvP.imp (evd_ixT (n := 0) (evp_var (i := 12) (P := fun B w => Dp K B w (w4D q)) rfl hy) evv_c rfl) fun _ _ _ z => by cases z; rfl) (evv_var (i := 3) rfl)), fun _ => evp_var (i := 12) rfl hy⟩
  -- the end
  have heldIt : Items (DR K w4D) (heldOf ts own strange f0) B12 (yh ++ zs) := paired_app (Mono.up (P := Items (DR K w4D) _) e12 it11) it12
  have heldLen : (heldOf ts own strange f0).length ≤ 7000 := by
    have h1 : (yh ++ zs).length = (heldOf ts own strange f0).length := Paired.length heldIt
    have h2 : zs.length = _ := Paired.length it12
    have : ((own ++ strange).filter fun q => decide (q.1 ≥ f0)).length ≤ (own ++ strange).length := List.length_filter_le _ _
    rw [List.length_append] at this
    rw [← h1, List.length_append, h2]
    omega
  have far : ∀ d u, Cell H0 B10 H10 d u → d ≠ hl := fun d u cd z => by rw [z] at cd; rw [cd.at_] at nhl; cases nhl
  have keepA : ∀ d u, d ≠ a.t → Cell H0 B9 H9 d u → Cell H0 B12 H12 d u := fun d u n cd => keep12 _ _ (far _ _ (keep10 _ _ n cd)) ((keep10 _ _ n cd).grow g11')
  have ct12 : Cell H0 B12 H12 a.t (.lst (yt ++ [w10])) := keep12 _ _ (far _ _ c10) (c10.grow g11')
  have g13 := g12.freeze c12
  have e13 : Ex B12 (upd B12 hl (.lst (yh ++ zs))) := Ex.new g12.bh.l c12.nb
  have keepF : ∀ d u, d ≠ hl → Cell H0 B12 H12 d u → Cell H0 (upd B12 hl (.lst (yh ++ zs))) H12 d u := fun d u n cd => cd.freeze n
  have e9F : Ex B9 (upd B12 hl (.lst (yh ++ zs))) := (e10.trans (g11'.b.trans e12)).trans e13
  have scF : StoryC K c H0 (upd B12 hl (.lst (yh ++ zs))) H12 x til (.ref hoa) a { s with turned := s.turned ++ [(f0, begunOf til f0 ws.js, n)], lived := s.lived ++ livedOf til ((s.names.length : Int) - 1) ws.js, lost := s.lost ++ unkOf strange f0 } := by
    obtain ⟨⟨dx, h1⟩, _, ⟨y2, cl2, i2⟩, ⟨y3, cl3, i3⟩, ⟨y4, cl4, i4⟩, nd'⟩ := sc9
    have mv : ∀ d u, d ≠ a.t → Cell H0 B9 H9 d u → Cell H0 (upd B12 hl (.lst (yh ++ zs))) H12 d u := fun d u n cd => keepF _ _ (far _ _ (keep10 _ _ n cd)) (keepA _ _ n cd)
    refine ⟨⟨dx, e9F _ _ h1⟩, ⟨_, keepF _ _ (far _ _ c10) ct12, ?_⟩, ⟨y2, mv _ _ (fun z => n1 z.symm) cl2, Mono.up (P := Items _ _) e9F i2⟩, ⟨y3, mv _ _ (fun z => n2 z.symm) cl3, Mono.up (P := Items _ _) e9F i3⟩, ⟨y4, mv _ _ (fun z => n3 z.symm) cl4, Mono.up (P := Items _ _) e9F i4⟩, nd'⟩
    exact paired_app (Mono.up (P := Items (DR K turnD) s.turned) e9F it) (.cons (dp_up ((g11'.b.trans e12).trans e13) p10) .nil)
  refine (evp_tup (σ := [some (.ref x), some (.ref ea), some hsv, some (.int f0), some lv, some jv, some nv, some (.int (begunOf til f0 ws.js)), some (.int (lastOf (f0 :: hrs) (begunOf til f0 ws.js))), some (.str n), some (.ref hl), none, none, none, none, none, none, none]) (K := K) (A := ConsP (Is (.str n)) (ConsP (Is (.int (begunOf til f0 ws.js))) (ConsP (LsOf K (DR K w4D) (anewOf (begunOf til f0 ws.js) (heldOf ts own strange f0))) (Iss [])))) (eva_cons (evv_var (i := 9) rfl) fun B' e => eva_cons (evv_var (i := 7) rfl) fun B'' e' => eva_cons (P := LsOf K (DR K w4D) (anewOf (begunOf til f0 ws.js) (heldOf ts own strange f0))) (by
    unfold anewOf
    refine evp_lcA (K := K) (R := DR K w4D) (S := DR K w4D) (fun q : W4 => (max q.1 (begunOf til f0 ws.js), q.2.1, q.2.2.1, q.2.2.2)) (evi_list (evp_var (i := 10) rfl ⟨hl, _, rfl, (e.trans e') _ _ upd_same, Mono.up (P := Items (DR K w4D) _) (e13.trans (e.trans e')) heldIt⟩)) (by omega) fun B3 y q e3 hq hy => ?_
    obtain ⟨px, rfl, sx⟩ := dp_tup [.int q.1, .str q.2.1, .int q.2.2.1, .int q.2.2.2] hy
    exact ⟨_, evg_tup sx rfl (evgs_cons evg_name (evgs_cons evg_name (evgs_cons evg_name (evgs_cons evg_name evgs_nil)))), rfl, evd_tup (K := K) (ds := [.int (max q.1 (begunOf til f0 ws.js)), .str q.2.1, .int q.2.2.1, .int q.2.2.2]) (evds_cons (evd_int (evv_max2 (evv_var (i := 14) rfl) (evv_var (i := 7) rfl))) (evds_cons (evd_str (evv_var (i := 15) rfl)) (evds_cons (evd_int (evv_var (i := 16) rfl)) (evds_cons (evd_int (evv_var (i := 17) rfl)) evds_nil)))) (by simp)⟩) fun B3 e3 => eva_nil) fun B' vs ⟨_, _, h1, _, ⟨_, _, h2, _, ⟨_, _, h3, _, h4⟩⟩⟩ => by cases h4; subst h1 h2 h3; exact (by decide : 3 ≤ sizeLine)) H12 g13.bh _ fun rvF B14 H14 g14 hrF => ?_
  exact (kk ws rvF B14 H14 st nlt (g13.trans g14) (((e08.trans g9'.b).trans e9F).trans g14.b)).2 hb n hn (scF.keep g14.b fun d u cd => cd.grow g14) hrF
end
end K7

set_option Elab.async false
set_option linter.all false
set_option maxRecDepth 100000
set_option maxHeartbeats 8000000
namespace K7
open PySem PySem.Spec PySem.W L2 Pw
open PyProof.Rows hiding St
open Evl (sq_of st_of)
variable [Tbs]
/-! ### what a story walks -/
structure TsOk (ts : List TaskD) : Prop where
  un : Unlike ts
  most : ∀ t ∈ ts, 1 ≤ t.most
  ok : ∀ t ∈ ts, PyData.strOk t.name = true
theorem jobsOf_of {t : TaskD} {g : Bool} : ∀ {rows : List (Int × Int)} {last : Option Int} {k : Nat} {r : JR}, r ∈ jobsOf t g last k rows → r.name = t.name ∧ ∃ p ∈ rows, r.work = p.2
  | [], _, _, _, h => nomatch h
  | p :: rows, _, _, r, h => by
    rcases List.mem_cons.mp h with z | z
    · rw [z]; exact ⟨rfl, p, List.mem_cons_self, rfl⟩
    · obtain ⟨h1, q, h2, h3⟩ := jobsOf_of z
      exact ⟨h1, q, List.mem_cons_of_mem _ h2, h3⟩
theorem rowsOf_of {ts : List TaskD} {t : TaskD} {own : List W4} {til : Int} {r : JR} (nd : (ts.map (·.name)).Nodup) (ht : t ∈ ts) (h : r ∈ rowsOf ts t own til) : r.name = t.name ∧ ∃ q ∈ own, r.work = q.2.2.1 := by
  unfold rowsOf at h
  rw [letIn_one nd ht fun q hq => by obtain ⟨z, _, rfl⟩ := List.mem_map.mp hq; rfl] at h
  obtain ⟨h1, p, h2, h3⟩ := jobsOf_of h
  refine ⟨h1, ?_⟩
  have h4 := (List.mergeSort_perm _ _).mem_iff.mp h2
  obtain ⟨q, hq, rfl⟩ := List.mem_map.mp h4
  obtain ⟨q2, hq2, rfl⟩ := List.mem_map.mp hq
  have h5 := (List.mergeSort_perm _ _).mem_iff.mp hq2
  obtain ⟨q3, hq3, rfl⟩ := List.mem_map.mp h5
  exact ⟨q3, (List.mem_filter.mp hq3).1, h3⟩
theorem letOf_of {ts : List TaskD} {own : List W4} {til : Int} {q : JR × W4} (nd : (ts.map (·.name)).Nodup) (h : q ∈ letOf ts own til) : ∃ t ∈ ts, q.1.name = t.name ∧ ∃ q3 ∈ own, q.1.work = q3.2.2.1 := by
  obtain ⟨t, ht, hm⟩ := List.mem_flatMap.mp h
  obtain ⟨z, hz, rfl⟩ := List.mem_map.mp hm
  have htm : t ∈ ts := (byRank_perm ts).mem_iff.mp ht
  have h1 : z.1 ∈ rowsOf ts t own til := (List.of_mem_zip hz).1
  exact ⟨t, htm, rowsOf_of nd htm h1⟩
theorem good_rows {ts : List TaskD} {own : List W4} {til : Int} {rows : List JR} (O : TsOk ts) (hw : ∀ q ∈ own, 1 ≤ q.2.2.1) (hr : ∀ r ∈ rows, ∃ q ∈ letOf ts own til, q.1 = r) : GoodW true (rows.map (jobOf ts)) ∧ ∀ r ∈ rows, ∃ t ∈ ts, t.name = r.name := by
  have key : ∀ r ∈ rows, (∃ t ∈ ts, t.name = r.name) ∧ 1 ≤ r.work := fun r h => by
    obtain ⟨q, hq, rfl⟩ := hr r h
    obtain ⟨t, ht, hn, q3, hq3, hwk⟩ := letOf_of O.un.names hq
    exact ⟨⟨t, ht, hn.symm⟩, by rw [hwk]; exact hw _ hq3⟩
  refine ⟨⟨fun j hj he => ?_, fun j hj => ?_⟩, fun r h => (key r h).1⟩
  · obtain ⟨r, h, rfl⟩ := List.mem_map.mp hj
    obtain ⟨h1, h2⟩ := key r h
    obtain ⟨h3, h4⟩ := jobOf_t h1
    have h5 := O.most _ h3
    show (0 : Int) < goalOf true (jobOf ts r)
    unfold goalOf
    rw [if_pos rfl]
    have h6 : (jobOf ts r).r.work = r.work := rfl
    rw [h6]
    omega
  · obtain ⟨r, h, rfl⟩ := List.mem_map.mp hj
    obtain ⟨h1, h2⟩ := key r h
    exact O.ok _ (jobOf_t h1).1
/-- lengths -/
theorem part_le {own : List W4} {p : W4 → Bool} : ∀ {us : List TaskD}, (us.map (·.name)).Nodup → ((us.map fun t => (own.filter fun q => decide (V.str q.2.1 = V.str t.name) && p q).length).sum) ≤ (own.filter p).length := fun {us} nd => by
  induction own with
  | nil =>
    have : (us.map fun t => (([] : List W4).filter fun q => decide (V.str q.2.1 = V.str t.name) && p q).length).sum = 0 := by
      induction us with
      | nil => rfl
      | cons a r ih => rw [List.map_cons, List.sum_cons, ih (by rw [List.map_cons, List.nodup_cons] at nd; exact nd.2)]; rfl
    rw [this]; exact Nat.zero_le _
  | cons q own ih =>
    have one : ∀ {us : List TaskD}, (us.map (·.name)).Nodup → (us.map fun t => ((q :: own).filter fun q => decide (V.str q.2.1 = V.str t.name) && p q).length).sum ≤ (us.map fun t => (own.filter fun q => decide (V.str q.2.1 = V.str t.name) && p q).length).sum + (if p q then 1 else 0) := fun {us} nd => by
      induction us with
      | nil => exact Nat.zero_le _
      | cons a r ih2 =>
        rw [List.map_cons, List.nodup_cons] at nd
        rw [List.map_cons, List.map_cons, List.sum_cons, List.sum_cons]
        by_cases e : V.str q.2.1 = V.str a.name
        · -- nobody else
          have z : (r.map fun t => ((q :: own).filter fun q => decide (V.str q.2.1 = V.str t.name) && p q).length) = (r.map fun t => (own.filter fun q => decide (V.str q.2.1 = V.str t.name) && p q).length) := by
            refine List.map_congr_left fun t ht => ?_
            have ne : ¬ V.str q.2.1 = V.str t.name := fun e2 => nd.1 (by
              rw [e] at e2
              exact List.mem_map.mpr ⟨t, ht, (V.str.inj e2).symm⟩)
            rw [List.filter_cons, if_neg (by simp [ne])]
          rw [z, List.filter_cons]
          by_cases hp : p q = true
          · rw [if_pos (by simp [e, hp]), if_pos hp, List.length_cons]; omega
          · rw [if_neg (by simp [hp]), if_neg hp]; omega
        · rw [List.filter_cons, if_neg (by simp [e])]
          have := ih2 nd.2
          omega
    have h1 := one nd
    rw [List.filter_cons]
    by_cases hp : p q = true
    · rw [if_pos hp] at h1 ⊢
      rw [List.length_cons]
      omega
    · rw [if_neg hp] at h1 ⊢
      omega
theorem letOf_le {ts : List TaskD} {own : List W4} {til : Int} (nd : (ts.map (·.name)).Nodup) : (letOf ts own til).length ≤ (own.filter fun q => decide (q.1 < til)).length := by
  have nd2 : ((byRank ts).map (·.name)).Nodup := ((byRank_perm ts).map _).nodup_iff.mpr nd
  refine Nat.le_trans ?_ (part_le (p := fun q => decide (q.1 < til)) nd2)
  unfold letOf
  rw [List.length_flatMap]
  refine Nat.le_of_eq (congrArg List.sum (List.map_congr_left fun t ht => ?_))
  rw [List.length_map, List.length_zip, rowsOf_len nd ((byRank_perm ts).mem_iff.mp ht), Nat.min_self, srt_len]
  unfold mineOf
  rw [List.length_map]
theorem split_len {α : Type} (p : α → Bool) : ∀ xs : List α, (xs.filter p).length + (xs.filter fun x => !p x).length = xs.length
  | [] => rfl
  | a :: r => by
    have ih := split_len p r
    rw [List.filter_cons, List.filter_cons]
    cases p a <;> simp <;> omega
theorem own_len (ts : List TaskD) (ws : List W4) : (ownOf ts ws).length + (strangeOf ts ws).length = ws.length := by
  unfold ownOf strangeOf
  rw [srt_len, srt_len]
  exact split_len (fun q : W4 => hasT ts q.2.1) ws
theorem held_len {ts : List TaskD} {own strange : List W4} {f0 : Int} (nd : (ts.map (·.name)).Nodup) : (heldOf ts own strange f0).length ≤ own.length + strange.length := by
  unfold heldOf
  rw [List.length_append, List.length_map, List.filter_append, List.length_append]
  have h1 := letOf_le (own := own) (til := f0) nd
  have h2 : ((letOf ts own f0).filter fun q => decide (q.1.arr > f0)).length ≤ (letOf ts own f0).length := List.length_filter_le _ _
  have h3 := split_len (fun q : W4 => decide (q.1 < f0)) own
  have h4 : (own.filter fun q => !decide (q.1 < f0)) = own.filter fun q => decide (q.1 ≥ f0) := List.filter_congr fun q _ => by
    by_cases z : q.1 < f0
    · rw [decide_eq_true z, decide_eq_false (by omega)]; rfl
    · rw [decide_eq_false z, decide_eq_true (by omega)]; rfl
  rw [h4] at h3
  have h5 : (strange.filter fun q => decide (q.1 ≥ f0)).length ≤ strange.length := List.length_filter_le _ _
  omega
theorem own_mem {ts : List TaskD} {ws : List W4} {q : W4} (h : q ∈ ownOf ts ws) : q ∈ ws ∧ hasT ts q.2.1 = true := List.mem_filter.mp ((List.mergeSort_perm _ _).mem_iff.mp h)
theorem strange_mem {ts : List TaskD} {ws : List W4} {q : W4} (h : q ∈ strangeOf ts ws) : q ∈ ws ∧ hasT ts q.2.1 = false := by
  have := List.mem_filter.mp ((List.mergeSort_perm _ _).mem_iff.mp h)
  exact ⟨this.1, by simpa using this.2⟩
/-- the wishes that are held are some of those that came -/
theorem letOf_wish {ts : List TaskD} {own : List W4} {til : Int} {q : JR × W4} (h : q ∈ letOf ts own til) : ∃ q3 ∈ own, q.2.2.2.1 = q3.2.2.1 := by
  obtain ⟨t, ht, hm⟩ := List.mem_flatMap.mp h
  obtain ⟨z, hz, rfl⟩ := List.mem_map.mp hm
  have h2 := (List.mergeSort_perm _ _).mem_iff.mp (List.of_mem_zip hz).2
  obtain ⟨q3, hq3, e⟩ := List.mem_map.mp h2
  exact ⟨q3, (List.mem_filter.mp hq3).1, by rw [← e]⟩
theorem held_work {ts : List TaskD} {own strange : List W4} {f0 : Int} (h1 : ∀ q ∈ own, 1 ≤ q.2.2.1) (h2 : ∀ q ∈ strange, 1 ≤ q.2.2.1) : ∀ q ∈ heldOf ts own strange f0, 1 ≤ q.2.2.1 := fun q hq => by
  unfold heldOf at hq
  rcases List.mem_append.mp hq with z | z
  · obtain ⟨y, hy, rfl⟩ := List.mem_map.mp z
    obtain ⟨q3, hq3, e⟩ := letOf_wish (List.mem_filter.mp hy).1
    rw [e]
    exact h1 _ hq3
  · rcases List.mem_append.mp (List.mem_filter.mp z).1 with y | y
    · exact h1 _ y
    · exact h2 _ y
/-! the hours of changes in an era -/
def hoursOf (h : Hs) (past til : Int) : List Int := srt PyData.int ((h.wanted.map (·.1)).filter fun k => decide (past < k) && decide (k < til))
inductive Told (h : Hs) (til : Int) : Int → Str → List W4 → StS → StS → Prop
  | last {past : Int} {name : Str} {ws : List W4} {s : StS} {ts : List TaskD} {w : Ws} : (name, ts) ∈ h.plans → hoursOf h past til = [] → Steps true til (startW ts ((letOf ts (ownOf ts ws) til).map fun q => q.1) til) w → ¬ w.hour < til →
      Told h til past name ws s { s with names := s.names ++ [name], lived := s.lived ++ livedOf til (s.names.length : Int) w.js, lost := s.lost ++ unkOf (strangeOf ts ws) til }
  | stop {past : Int} {name : Str} {ws : List W4} {s : StS} {ts : List TaskD} {w : Ws} {f0 : Int} {hr : List Int} : (name, ts) ∈ h.plans → hoursOf h past til = f0 :: hr → Steps true til (startW ts (oldRows ts (ownOf ts ws) f0) til) w → ¬ w.hour < til → begunOf til f0 w.js ≥ til →
      Told h til past name ws s { s with names := s.names ++ [name], lived := s.lived ++ livedOf til (s.names.length : Int) w.js, lost := s.lost ++ unkOf (strangeOf ts ws) f0 }
  | next {past : Int} {name n : Str} {ws : List W4} {s s' : StS} {ts : List TaskD} {w : Ws} {f0 : Int} {hr : List Int} : (name, ts) ∈ h.plans → hoursOf h past til = f0 :: hr → Steps true til (startW ts (oldRows ts (ownOf ts ws) f0) til) w → ¬ w.hour < til → ¬ begunOf til f0 w.js ≥ til →
      valV (wantedK h.wanted) (.inl (lastOf (f0 :: hr) (begunOf til f0 w.js))) = some (.str n) →
      Told h til (begunOf til f0 w.js) n (anewOf (begunOf til f0 w.js) (heldOf ts (ownOf ts ws) (strangeOf ts ws) f0)) { s with turned := s.turned ++ [(f0, begunOf til f0 w.js, n)], names := s.names ++ [name], lived := s.lived ++ livedOf til (s.names.length : Int) w.js, lost := s.lost ++ unkOf (strangeOf ts ws) f0 } s' →
      Told h til past name ws s s'
/-- changes that are still ahead -/
def aheadOf (h : Hs) (past : Int) : Nat := (h.wanted.filter fun p => decide (past < p.1)).length
theorem ahead_lt {h : Hs} {past p2 f0 : Int} (h1 : past < f0) (h2 : f0 ≤ p2) (hm : f0 ∈ h.wanted.map (·.1)) : aheadOf h p2 < aheadOf h past := by
  unfold aheadOf
  have go : ∀ ws : List (Int × Str), (ws.filter fun p => decide (p2 < p.1)).length ≤ (ws.filter fun p => decide (past < p.1)).length := fun ws => by
    induction ws with
    | nil => exact Nat.le_refl _
    | cons a r ih =>
      rw [List.filter_cons, List.filter_cons]
      by_cases z : p2 < a.1
      · rw [if_pos (decide_eq_true z), if_pos (decide_eq_true (by omega))]
        simp only [List.length_cons]; omega
      · rw [if_neg (by simpa using z)]
        split
        · simp only [List.length_cons]; omega
        · exact ih
  generalize h.wanted = ws at hm ⊢
  induction ws with
  | nil => cases hm
  | cons a r ih =>
    rw [List.filter_cons, List.filter_cons]
    rw [List.map_cons, List.mem_cons] at hm
    by_cases e : f0 = a.1
    · rw [if_neg (by simp; omega), if_pos (decide_eq_true (by omega))]
      have := go r
      simp only [List.length_cons]; omega
    · have i := ih (hm.resolve_left e)
      by_cases z : p2 < a.1
      · rw [if_pos (decide_eq_true z), if_pos (decide_eq_true (by omega))]
        simp only [List.length_cons]; omega
      · rw [if_neg (by simpa using z)]
        split
        · simp only [List.length_cons]; omega
        · exact i
theorem hoursOf_mem {h : Hs} {past til y : Int} (hy : y ∈ hoursOf h past til) : past < y ∧ y < til ∧ y ∈ h.wanted.map (·.1) := by
  have := List.mem_filter.mp ((List.mergeSort_perm _ _).mem_iff.mp hy)
  obtain ⟨h1, h2⟩ := this
  obtain ⟨h3, h4⟩ := Bool.and_eq_true_iff.mp h2
  exact ⟨of_decide_eq_true h3, of_decide_eq_true h4, h1⟩
theorem wanted_some {ws : List (Int × Str)} {y : Int} (h : y ∈ ws.map (·.1)) : ∃ n, valV (wantedK ws) (.inl y) = some (.str n) ∧ ∃ p ∈ ws, p.2 = n := by
  induction ws with
  | nil => cases h
  | cons a r ih =>
    by_cases e : a.1 = y
    · exact ⟨a.2, by
        show valV ((.inl a.1, .str a.2) :: wantedK r) (.inl y) = _
        rw [valV_pos (by rw [e])], a, List.mem_cons_self, rfl⟩
    · rw [List.map_cons, List.mem_cons] at h
      obtain ⟨n, h1, p, h2, h3⟩ := ih (h.resolve_left fun z => e z.symm)
      exact ⟨n, by
        show valV ((.inl a.1, .str a.2) :: wantedK r) (.inl y) = _
        rw [valV_neg (fun z => e (Sum.inl.inj z))]
        exact h1, p, List.mem_cons_of_mem _ h2, h3⟩
end K7

set_option Elab.async false
set_option linter.all false
set_option maxRecDepth 100000
set_option maxHeartbeats 8000000
namespace K7
open PySem PySem.Spec PySem.W L2 Pw
open PyProof.Rows hiding St
open Evl (sq_of st_of)
variable [Tbs]
abbrev PlanAt' (K : PySem.W.Frag) (c : Cs) (ts : List TaskD) : Hp → V → Prop := fun B v => PlanAt K c B v ts
instance {K : PySem.W.Frag} {c : Cs} {ts : List TaskD} : Mono (PlanAt' K c ts) := ⟨fun e h => MonoR.up (R := PlanAt K c) e h⟩
theorem evi_map {α β : Type} {wi : TI} {σ : L2.St} {B : Hp} {f : β → V} {g : α → β} {as : List α} (h : EvI wi σ B (VR f) (as.map g)) : EvI wi σ B (VR fun a => f (g a)) as := fun H bh Rk k => h H bh Rk fun J B' H' gr w => k J B' H' gr ⟨fun H x => by
  have := w.stop H x
  rw [List.length_map] at this
  exact this, fun i a H x hi => w.go i (g a) H x (by rw [List.getElem?_map, hi]; rfl), fun i a H v H' x hi y B1 e1 b1 => w.yld i (g a) H v H' x (by rw [List.getElem?_map, hi]; rfl) y B1 e1 b1⟩
theorem startW_len {ts : List TaskD} {rows : List JR} {til : Int} {w : Ws} (st : Steps true til (startW ts rows til) w) : w.js.length = rows.length := by
  rw [steps_len st]
  show (rows.map (jobOf ts)).length = _
  rw [List.length_map]
theorem livedOf_len (til k : Int) (js : List Jb) : (livedOf til k js).length ≤ js.length := by
  unfold livedOf
  rw [List.length_map]
  exact List.length_filter_le _ _
theorem unkOf_len (ws : List W4) (k : Int) : (unkOf ws k).length ≤ ws.length := by
  unfold unkOf
  rw [List.length_map]
  exact List.length_filter_le _ _
structure HsOk (h : Hs) : Prop where
  plans : ∀ p ∈ h.plans, TsOk p.2
  want : ∀ p ∈ h.wanted, p.2 ∈ h.plans.map (·.1)
  len : h.wanted.length ≤ 1000
def spWalk (K : PySem.W.Frag) (c : Cs) : Sp := fun vs H Q _ => ∃ (B0 H0 B : Hp) (x : Addr) (til : Int) (hv wv : V) (a : StoryL) (s : StS) (h : Hs) (n : Str) (ws : List W4), vs = [.ref x, .str n, wv] ∧ Grow B0 H0 B H ∧ StoryC K c H0 B H x til hv a s ∧ HouseAt K c B hv h ∧ LsOf K (DR K w4D) ws B wv ∧ ws.length ≤ 100 ∧ (∀ q ∈ ws, 1 ≤ q.2.2.1) ∧ HsOk h ∧ n ∈ h.plans.map (·.1) ∧
  s = ⟨[], [], [], []⟩ ∧ ∀ s' B' H', Told h til (-1) n ws s s' → Grow B0 H0 B' H' → Ex B B' → StoryC K c H0 B' H' x til hv a s' → Q .non H'
/-- how long a story's lists may be -/
structure Short (h : Hs) (past : Int) (s : StS) : Prop where
  lived : s.lived.length + 100 * aheadOf h past ≤ 100000
  lost : s.lost.length + 100 * aheadOf h past ≤ 100000
  names : s.names.length + aheadOf h past ≤ 1000
  turned : s.turned.length + aheadOf h past ≤ 1000
section
variable {P : Program} {w : World} {K : PySem.W.Frag} {mg : Str → Option Value} {base : Heap} {c : Cs} {f : Addr} {fd : FuncData}
abbrev s_Story_walk : Stmt := inClass (top 24) 1
theorem sc_Story_walk : FnScope ["self", "name", "wishes", "past", "era", "hours", "hour", "row", "wish"] ["self", "name", "wishes"] (defScope s_Story_walk) := ⟨rfl, rfl, rfl, by decide +kernel, rfl, by decide +kernel, by decide +kernel⟩
/- slots: 0=self 1=name 2=wishes 3=past 4=era 5=hours 6=hour 7=row 8=wish -/
theorem ok_Story_walk (F : Fun K "walk" "Story.walk" s_Story_walk f fd) (T : Txt K mg c) (G_Era : Gc P w K mg base 2 "Era" c.Era ["self", "plan", "wishes"] [] (Ctor c.Era (R_Era K c))) (G_Era_let : Gm P w K mg base 4 c.Era "let" ["self", "until"] [] (Pure (R_eraLet K c)))
    (G_Story_note : Gm P w K mg base 7 c.Story "note" ["self", "era", "rows", "until"] [] (spNote K c)) (G_Story_changed : Gm P w K mg base 8 c.Story "changed" ["self", "era", "hours"] [] (spChanged K c)) :
    FnOk P w K mg base CX0 9 f fd ["self", "name", "wishes"] (spWalk K c) := by
  refine sp_ok F sc_Story_walk (fun vs H Q E ⟨B0, H0, B, x, til, hv, wv, a, s, h, n, ws, e, _⟩ => by rw [e]; rfl) fun cdv A outer s0 Hh E hr => ?_
  have hu := hu_of hr
  refine ⟨_, (pss_cons (ps_set (i := 3) sc_Story_walk.nd rfl (by first | exact Or.inl rfl | exact Or.inr rfl) (pe_un un_neg pe_int))
        (pss_one (ps_while PassesOwn.never (pt_cmpR op_notN (pv 1) pe_non (nomark _))
        (pss_cons (ps_expr (pe_bm PySem.F.plainAttrs_list PySem.F.slot_list_append PySem.F.type_list_append mt_append (pe_fld (pv 0) rfl) (pa_cons (pv 1) pa_nil)))
        (pss_cons (ps_set (i := 4) sc_Story_walk.nd rfl (by first | exact Or.inl rfl | exact Or.inr rfl) (pe_gc G_Era (hr.mono (by decide)) (by rfl) (pa_cons (pe_dget hu (pe_fld (pe_fld (pv 0) rfl) rfl) (pv 1) (fun _ _ => rfl)) (pa_cons (pv 2) pa_nil))))
        (pss_cons (ps_set (i := 5) sc_Story_walk.nd rfl (by first | exact Or.inl rfl | exact Or.inr rfl) (pe_lock (pe_callB (call_sortedDat hr.units) (by rfl) T.b_sorted (by decide +kernel) (pa_cons (pe_lc (own := [("hour", 6)]) rfl sc_Story_walk.nd (pi_keys (pe_fld (pe_fld (pv 0) rfl) rfl)) (blkOk_by (N := ["self", "name", "wishes", "past", "era", "hours", "hour", "row", "wish"]) (sc := defScope s_Story_walk) (by decide +kernel)) (fun _ _ _ _ _ => (pg_name (i := 6) sc_Story_walk.nd rfl (by first | exact Or.inl rfl | exact Or.inr rfl))) (fun _ _ _ _ _ => pts_one (pt_chain op_lt op_lt (pv 3) (pv 6) (pe_fldK (K := K) rfl (pv 0) rfl))) (fun _ _ _ _ _ => (pv 6))) pa_nil))))
        (pss_one (ps_if (pt_cmpR (op_eqNil hr.units) (pv 5) (pe_lst pa_nil) (nomark _)) (pss_cons (ps_expr (pe_gm (pv 0) T.c_Story G_Story_note (hr.mono (by decide)) (pa_cons (pv 4) (pa_cons (pe_lc (own := [("row", 7), ("wish", 8)]) rfl sc_Story_walk.nd (pi_list (pe_gm (pv 4) T.c_Era G_Era_let (hr.mono (by decide)) (pa_cons (pe_fld (pv 0) rfl) pa_nil))) (blkOk_by (N := ["self", "name", "wishes", "past", "era", "hours", "hour", "row", "wish"]) (sc := defScope s_Story_walk) (by decide +kernel)) (fun _ _ _ _ _ => (pg_tupK (K := K) (n := 2) rfl (by rfl) (pgs_cons (pg_name (i := 7) sc_Story_walk.nd rfl (by first | exact Or.inl rfl | exact Or.inr rfl)) (pgs_cons (pg_name (i := 8) sc_Story_walk.nd rfl (by first | exact Or.inl rfl | exact Or.inr rfl)) pgs_nil)))) (fun _ _ _ _ _ => pts_nil) (fun _ _ _ _ _ => (pv 7))) (pa_cons (pe_fld (pv 0) rfl) pa_nil)))))
        (pss_one (ps_set (i := 1) sc_Story_walk.nd rfl (by first | exact Or.inl rfl | exact Or.inr rfl) pe_non))) (pss_one (ps_asg (pe_gm (pv 0) T.c_Story G_Story_changed (hr.mono (by decide)) (pa_cons (pv 4) (pa_cons (pv 5) pa_nil))) (pg_tup (by rfl) (pgs_cons (pg_name (i := 1) sc_Story_walk.nd rfl (by first | exact Or.inl rfl | exact Or.inr rfl)) (pgs_cons (pg_name (i := 3) sc_Story_walk.nd rfl (by first | exact Or.inl rfl | exact Or.inr rfl)) (pgs_cons (pg_name (i := 2) sc_Story_walk.nd rfl (by first | exact Or.inl rfl | exact Or.inr rfl)) pgs_nil)))))))))))))), fun vs H Q E' ⟨B0, H0, B, x, til, hv, wv, a, s, h, n, ws, hvs, gr, sc, hh, hws, hwl, hwk, HO, hn, hs0, kk⟩ => ?_⟩
  subst hvs
  obtain ⟨xdx, hx⟩ := sc.obj
  refine q_asg (Pv := Is (.int (-1))) gr evv_neg1 fun pv B1 H1 g1 g1' hp => ?_
  cases hp
  have ah0 : aheadOf h (-1) ≤ 1000 := Nat.le_trans (List.length_filter_le _ _) HO.len
  refine s_while (m0 := aheadOf h (-1) + 1) (fun m σ' B' H' => Ex B B' ∧ Grow B0 H0 B' H' ∧ ((∃ past n1 ws1 wv1 s1 y4 y5 y6 y7 y8, σ' = [some (.ref x), some (.str n1), some wv1, some (.int past), y4, y5, y6, y7, y8] ∧ StoryC K c H0 B' H' x til hv a s1 ∧ LsOf K (DR K w4D) ws1 B' wv1 ∧ ws1.length ≤ 100 ∧ (∀ q ∈ ws1, 1 ≤ q.2.2.1) ∧ n1 ∈ h.plans.map (·.1) ∧ Short h past s1 ∧ m = aheadOf h past + 1 ∧
      ∀ s', Told h til past n1 ws1 s1 s' → Told h til (-1) n ws s s') ∨ (∃ s' y0 y2 y3 y4 y5 y6 y7 y8, σ' = [y0, some .non, y2, y3, y4, y5, y6, y7, y8] ∧ m = 0 ∧ Told h til (-1) n ws s s' ∧ StoryC K c H0 B' H' x til hv a s'))) g1.bh ⟨g1'.b, g1, .inl ⟨-1, n, ws, wv, s, none, none, none, none, none, rfl, sc.keep g1'.b fun d u cd => cd.grow g1', Mono.up (P := LsOf K (DR K w4D) ws) g1'.b hws, hwl, hwk, hn, ?_, rfl, fun s' t => t⟩⟩ ?_
  · subst hs0
    exact ⟨by show 0 + _ ≤ _; omega, by show 0 + _ ≤ _; omega, by show 0 + _ ≤ _; omega, by show 0 + _ ≤ _; omega⟩
  rintro m σ' B2 H2 bh2 ⟨e2, g2, ⟨past, n1, ws1, wv1, s1, y4, y5, y6, y7, y8, rfl, sc2, hws2, hwl2, hwk2, hn2, sh, rfl, told⟩ | ⟨s', y0, y2, y3, y4, y5, y6, y7, y8, rfl, rfl, told, sc2⟩⟩
  · refine ⟨true, evt_test (evv_op (x := .str n1) (evv_var (i := 1) rfl) evv_c fun _ _ => evr_now (fun H _ Q q => ⟨rfl, q⟩) rfl), ?_, fun z => by cases z⟩
    intro _ H3 e3
    obtain ⟨⟨pn, ts⟩, hpm, hpn⟩ := List.mem_map.mp hn2
    have hpn : pn = n1 := hpn
    subst hpn
    have O : TsOk ts := HO.plans _ hpm
    obtain ⟨hoa, hdx, hfs, rfl, hha, pv, hvv, wd, rfl, hpm', hhe, hwd⟩ := id hh
    have g3 := g2.ext e3
    have sc3 := sc2.keep (.refl g2.bh.l) fun d u cd => cd.ext e3
    obtain ⟨yn, cn, inn⟩ := sc3.n
    have ynl : yn.length = s1.names.length := Paired.length inn
    have hx3 : B2 x = some (.ins c.Story xdx (storyF til a.t a.l a.v a.n (.ref hoa))) := e2 _ _ hx
    have nd := sc.nd
    simp only [List.nodup_cons, List.mem_cons, List.not_mem_nil, or_false, not_or, not_false_eq_true, List.nodup_nil, and_true] at nd
    obtain ⟨⟨n1', n2', n3'⟩, ⟨n4', n5'⟩, n6'⟩ := nd
    -- names.append(name)
    refine q_appE (Pv := Is (.str pn)) g3 cn (evv_fld (evv_var (i := 0) rfl) hx3 T.c_Story T.n_Story_names rfl) (evv_var (i := 1) rfl) (by have := sh.names; omega) fun w4 B4 H4 e4 keep4 g4 c4 p4 => ?_
    cases p4
    have sc4 : StoryC K c H0 B4 H4 x til (.ref hoa) a { s1 with names := s1.names ++ [pn] } := by
      obtain ⟨⟨dx, h1⟩, ⟨y1, cl1, i1⟩, ⟨y2, cl2, i2⟩, ⟨y3, cl3, i3⟩, _, nd'⟩ := sc3
      exact ⟨⟨dx, e4 _ _ h1⟩, ⟨y1, keep4 _ _ n3' cl1, Mono.up (P := Items _ _) e4 i1⟩, ⟨y2, keep4 _ _ n5' cl2, Mono.up (P := Items _ _) e4 i2⟩, ⟨y3, keep4 _ _ n6' cl3, Mono.up (P := Items _ _) e4 i3⟩, ⟨_, c4, paired_app (Mono.up (P := Items (VR V.str) s1.names) e4 inn) (.cons rfl .nil)⟩, nd'⟩
    have hx4 := e4 _ _ hx3
    have e04 := e2.trans e4
    -- era
    refine q_asg (σ := [some (.ref x), some (.str pn), some wv1, some (.int past), y4, y5, y6, y7, y8]) (Pv := Made c.Era (EraIs K c ts (ownOf ts ws1) (strangeOf ts ws1))) g4 (evp_make (A := ConsP (PlanAt' K c ts) (ConsP (LsOf K (DR K w4D) ws1) (Iss []))) (eva_cons (P := PlanAt' K c ts) (ho_plan (p := (pn, ts)) T (evv_fld (evv_var (i := 0) rfl) hx4 T.c_Story T.n_Story_house rfl) (MonoR.up (R := HouseAt K c) e04 hh) hpm (evv_var (i := 1) rfl)) fun B' e => eva_cons (P := LsOf K (DR K w4D) ws1) (evp_var (i := 2) rfl (Mono.up (P := LsOf K (DR K w4D) ws1) (e4.trans e) hws2)) fun B'' e' => eva_nil) fun B' vs e ⟨u1, r1, h1, h2, ⟨u2, r2, h3, h4, h5⟩⟩ => by
      cases h5
      subst h1 h3
      exact ⟨u1, u2, ts, ws1, rfl, h2, O.un.len, h4, by omega, rfl⟩) fun ev B5 H5 g5 g5' hev => ?_
    obtain ⟨ea, edx, efs, rfl, hea, hei⟩ := hev
    have he5 : EraAt K c B5 (.ref ea) ts (ownOf ts ws1) (strangeOf ts ws1) := ⟨ea, edx, efs, rfl, hea, hei⟩
    have sc5 := sc4.keep g5'.b fun d u cd => cd.grow g5'
    have hx5 := g5'.b _ _ hx4
    have e05 := e04.trans g5'.b
    -- hours
    refine q_asg (σ := [some (.ref x), some (.str pn), some wv1, some (.int past), some (.ref ea), y5, y6, y7, y8]) (Pv := LsOf K (VR V.int) (hoursOf h past til)) g5 (evp_lock (u := .dK (wantedK h.wanted)) (P' := LsOf K (DR K PyData.int) (hoursOf h past til)) (e05 _ _ hwd) trivial po_dK (fun od => ?_) fun od B' v hd ⟨p, xs, h1, h2, h3⟩ => ?_) fun hv6 B6 H6 g6 g6' hh6 => ?_
    · have ne : ∀ {b : Addr} {C dx : Addr} {fs : List (Str × V)}, B5 b = some (.ins C dx fs) → upd B5 wd (.frz od (.dK (wantedK h.wanted))) b = some (.ins C dx fs) := fun {b C dx fs} z => by
        rw [upd_ne (fun y => by rw [y, e05 _ _ hwd] at z; cases z)]
        exact z
      have hw : EvP (tFld K (tFld K (tVar 0) "house") "wanted") [some (.ref x), some (.str pn), some wv1, some (.int past), some (.ref ea), y5, y6, y7, y8] (upd B5 wd (.frz od (.dK (wantedK h.wanted)))) (FzD (wantedK h.wanted)) := evp_fld (P := FzD (wantedK h.wanted)) (evv_fld (evv_var (i := 0) rfl) (ne hx5) T.c_Story T.n_Story_house rfl) (ne (e05 _ _ hha)) T.c_House T.n_House_wanted rfl ⟨wd, od, rfl, upd_same⟩
      unfold hoursOf
      have l1 : ((h.wanted.map (·.1)).filter fun k => decide (past < k) && decide (k < til)).length ≤ 1000 := Nat.le_trans (List.length_filter_le _ _) (by rw [List.length_map]; exact HO.len)
      have ef : ((h.wanted.map (·.1)).filter fun k => decide (past < k) && decide (k < til)) = (h.wanted.filter fun q => decide (past < q.1) && decide (q.1 < til)).map fun q => q.1 := by rw [List.filter_map]; rfl
      refine evp_sorted (K := K) (enc := PyData.int) ?_ (AllAlike.of fun a b => by simp [alike]) (Sortable.others fun b => ⟨(fun z => by cases z), (fun xs z => by cases z)⟩) (by omega) fun b _ => by simp [PyData.depth]
      rw [ef]
      refine evp_lcI (K := K) (R := VR fun q : Int × Str => V.int q.1) (S := DR K PyData.int) (fun q : Int × Str => decide (past < q.1) && decide (q.1 < til)) (fun q : Int × Str => q.1) (evi_map (f := fun q : Key × V => kV q.1) (g := fun q : Int × Str => ((.inl q.1 : Key), V.str q.2)) (evi_keysF hw)) (by have := HO.len; omega) fun B' y q e hq hy => ?_
      subst hy
      exact ⟨_, evg_name, rfl, evt_test (evv_chain (evv_var (i := 3) rfl) (evv_var (i := 6) rfl) (fun _ _ => evr_I0) (fun _ => evv_fld (evv_var (i := 0) rfl) (e _ _ (ne hx5)) T.c_Story T.n_Story_until rfl) fun _ _ => evr_I0), fun _ => evd_int (evv_var (i := 6) rfl)⟩
    · refine ⟨p, xs, h1, by rw [upd_ne (fun z => by rw [z, hd] at h2; cases h2)]; exact h2, Paired.mapP h3 fun u i d => by cases (show Dp K B' u (.int i) from d); rfl⟩
    have sc6 := sc5.keep g6'.b fun d u cd => cd.grow g6'
    have hx6 := g6'.b _ _ hx5
    have he6 := he5.up g6'.b
    have e06 := e05.trans g6'.b
    have ol := own_len ts ws1
    have hwo : ∀ q ∈ ownOf ts ws1, 1 ≤ q.2.2.1 := fun q hq => hwk2 _ (own_mem hq).1
    have hws' : ∀ q ∈ strangeOf ts ws1, 1 ≤ q.2.2.1 := fun q hq => hwk2 _ (strange_mem hq).1
    have nlen : (s1.names ++ [pn]).length = s1.names.length + 1 := by rw [List.length_append]; rfl
    have ncast : (((s1.names ++ [pn]).length : Nat) : Int) - 1 = (s1.names.length : Int) := by rw [nlen]; omega
    have hnl := sh.names
    have hll := sh.lived
    have hsl := sh.lost
    have htl := sh.turned
    cases hho : hoursOf h past til with
    | nil =>
      refine s_ifH g6.bh.r (evt_eq (evt_test (evv_eqNil (R := VR V.int) (evp_var (i := 5) rfl (Mono.up (P := LsOf K (VR V.int) _) g6.bh hh6)) (evp_lstV (fe := V.int) (as := []) eva_nil (by simp)))) (by rw [hho])) fun H7 e7 => ?_
      have g7 := g6.ext e7
      have O2 := good_rows (rows := (letOf ts (ownOf ts ws1) til).map fun q => q.1) (til := til) O hwo fun r hr' => let ⟨q, hq, e⟩ := List.mem_map.mp hr'; ⟨q, hq, e⟩
      have ll := letOf_le (own := ownOf ts ws1) (til := til) O.un.names
      have ll2 : ((ownOf ts ws1).filter fun q => decide (q.1 < til)).length ≤ (ownOf ts ws1).length := List.length_filter_le _ _
      have hrowsE : EvP (tLc (iList K (tMeth c.Era "let" (Pure (R_eraLet K c)) [] E0 (tVar 4) (tCons (tFld K (tVar 0) "until") tNil))) (gTup K 2 (gCons (gName 7) (gCons (gName 8) gNil))) tYes (tVar 7) [7, 8]) [some (.ref x), some (.str pn), some wv1, some (.int past), some (.ref ea), some hv6, y6, y7, y8] B6 (LsOf K (DR K jrD) ((letOf ts (ownOf ts ws1) til).map fun q => q.1)) := by
        refine evp_lcA (K := K) (R := DR K lD) (S := DR K jrD) (fun q : JR × W4 => q.1) (evi_list (evp_meth (evv_var (i := 4) rfl) (g6'.b _ _ hea) (by obtain ⟨mv, ov, sv, e, _⟩ := hei; rw [e]; rfl) (evas_cons (evv_fld (evv_var (i := 0) rfl) hx6 T.c_Story T.n_Story_until rfl) eva_nil) fun B' vs e hvs => by
          cases hvs
          exact ⟨_, til, ts, _, _, rfl, he6.up e, O.un, by omega, hwo, rfl⟩)) (by omega) fun B' y q e hq hy => ?_
        cases (show Dp K B' y (.tuple [jrD q.1, w4D q.2]) from hy) with
        | tup st da =>
          cases da with
          | cons d1 da =>
            cases da with
            | cons d2 da =>
              cases da
              exact ⟨_, evg_tup st rfl (evgs_cons evg_name (evgs_cons evg_name evgs_nil)), rfl, evp_var (i := 7) rfl d1⟩
      refine iteT ?_
      refine s_methA (A := ConsP (Is (.ref ea)) (ConsP (LsOf K (DR K jrD) ((letOf ts (ownOf ts ws1) til).map fun q => q.1)) (ConsP (Is (.int til)) (Iss [])))) g7.bh (evv_var (i := 0) rfl) hx6 rfl (eva_cons (evv_var (i := 4) rfl) fun B' e => eva_cons (P := LsOf K (DR K jrD) ((letOf ts (ownOf ts ws1) til).map fun q => q.1)) (hrowsE.mono e) fun B'' e' => eva_cons (evv_fld (evv_var (i := 0) rfl) ((e.trans e') _ _ hx6) T.c_Story T.n_Story_until rfl) fun B3 e3 => eva_nil) fun B8 H8 vs g8 ⟨v1, r1, h1, h2, ⟨rv, r2, h3, hrv, ⟨v3, r3, h5, h6, h7⟩⟩⟩ => ?_
      cases h7
      cases h6
      cases h2
      subst h1 h3 h5
      refine ⟨B0, H0, B8, x, til, .ref hoa, .ref ea, rv, a, _, ts, ownOf ts ws1, strangeOf ts ws1, _, til, rfl, g7.trans g8, sc6.keep g8.b fun d u cd => (cd.ext e7).grow g8, he6.up g8.b, O.un.secs, hrv, by rw [List.length_map]; omega, O2.2, O2.1, by omega, by show s1.lived.length ≤ _; omega, by show s1.lost.length ≤ _; omega, by show (s1.names ++ [pn]).length ≤ _; rw [nlen]; omega, fun wz jv B9 H9 st nlt g9 e9 sc9 hjv => ?_⟩
      refine ⟨0, B9, Nat.zero_lt_succ _, g9.bh, (e06.trans g8.b).trans e9, g9, .inr ⟨_, _, _, _, _, _, _, _, _, rfl, rfl, told _ (Told.last hpm hho st nlt), ?_⟩⟩
      have sc9' := sc9
      rw [show ((({ s1 with names := s1.names ++ [pn] } : StS).names.length : Int) - 1) = (s1.names.length : Int) from ncast] at sc9'
      exact sc9'
    | cons f0 hrs =>
      refine s_ifH g6.bh.r (evt_eq (evt_test (evv_eqNil (R := VR V.int) (evp_var (i := 5) rfl (Mono.up (P := LsOf K (VR V.int) _) g6.bh hh6)) (evp_lstV (fe := V.int) (as := []) eva_nil (by simp)))) (by rw [hho])) fun H7 e7 => ?_
      have g7 := g6.ext e7
      have hf0 := hoursOf_mem (h := h) (past := past) (til := til) (y := f0) (by rw [hho]; exact List.mem_cons_self)
      have hlen : (f0 :: hrs).length ≤ 1000 := by
        rw [← hho]
        unfold hoursOf
        rw [srt_len]
        exact Nat.le_trans (List.length_filter_le _ _) (by rw [List.length_map]; exact HO.len)
      have O2 := good_rows (rows := oldRows ts (ownOf ts ws1) f0) (til := f0) O hwo fun r hr' => by
        obtain ⟨q, hq, e⟩ := List.mem_map.mp hr'
        exact ⟨q, (List.mem_filter.mp hq).1, e⟩
      have rl : (oldRows ts (ownOf ts ws1) f0).length ≤ 100 := by
        unfold oldRows
        rw [List.length_map]
        refine Nat.le_trans (List.length_filter_le _ _) (Nat.le_trans (letOf_le O.un.names) (Nat.le_trans (List.length_filter_le _ _) (by omega)))
      rw [hho] at hh6
      refine iteF ?_
      refine s_methA (A := Iss [.ref ea, hv6]) g7.bh (evv_var (i := 0) rfl) hx6 rfl (evas_cons (evv_var (i := 4) rfl) (evas_cons (evv_var (i := 5) rfl) eva_nil)) fun B8 H8 vs g8 hvs => ?_
      cases hvs
      refine ⟨B0, H0, B8, x, til, .ref hoa, .ref ea, hv6, a, _, h, ts, ownOf ts ws1, strangeOf ts ws1, f0, hrs, rfl, g7.trans g8, sc6.keep g8.b fun d u cd => (cd.ext e7).grow g8, MonoR.up (R := HouseAt K c) (e06.trans g8.b) hh, he6.up g8.b, O.un, Mono.up (P := LsOf K (VR V.int) _) g8.b hh6, by simp at hlen; omega, fun y hy => ?_, by omega, by omega, hwo, O2.1, by show s1.lived.length ≤ _; omega, by show s1.lost.length ≤ _; omega, by show (s1.names ++ [pn]).length ≤ _; rw [nlen]; omega, by show s1.turned.length ≤ _; omega, fun wz cv B9 H9 st nlt g9 e9 => ⟨fun hb sc9 hcv => ?_, fun hb nn hnn sc9 hcv => ?_⟩⟩
      · have := hoursOf_mem (h := h) (past := past) (til := til) (y := y) (by rw [hho]; exact hy)
        obtain ⟨n', h1, _⟩ := wanted_some this.2.2
        exact ⟨n', h1⟩
      · obtain ⟨pc, xs, rfl, sc', v1, r1, h1, h2, v2, r2, h3, h4, v3, r3, h5, h6, h7⟩ := hcv
        cases h7
        cases h4
        cases h2
        subst h1 h3 h5
        rw [show ((({ s1 with names := s1.names ++ [pn] } : StS).names.length : Int) - 1) = (s1.names.length : Int) from ncast] at sc9
        refine evg_tup (B := B9) sc' rfl (evgs_cons evg_name (evgs_cons evg_name (evgs_cons evg_name evgs_nil))) H9 g9.bh _ ?_
        exact ⟨0, B9, Nat.zero_lt_succ _, g9.bh, (e06.trans g8.b).trans e9, g9, .inr ⟨_, _, _, _, _, _, _, _, _, rfl, rfl, told _ (Told.stop hpm hho st nlt hb), sc9⟩⟩
      · obtain ⟨pc, xs, rfl, sc', v1, r1, h1, h2, v2, r2, h3, h4, v3, r3, h5, h6, h7⟩ := hcv
        cases h7
        cases h4
        cases h2
        subst h1 h3 h5
        rw [show ((({ s1 with names := s1.names ++ [pn] } : StS).names.length : Int) - 1) = (s1.names.length : Int) from ncast] at sc9
        refine evg_tup (B := B9) sc' rfl (evgs_cons evg_name (evgs_cons evg_name (evgs_cons evg_name evgs_nil))) H9 g9.bh _ ?_
        have al := ahead_lt (h := h) hf0.1 (begun_ge hb) hf0.2.2
        have wl := startW_len st
        have hl := held_len (own := ownOf ts ws1) (strange := strangeOf ts ws1) (f0 := f0) O.un.names
        have lin : lastOf (f0 :: hrs) (begunOf til f0 wz.js) ∈ f0 :: hrs := (List.mem_filter.mp (maxI_mem (ns := (f0 :: hrs).filter fun y => decide (y ≤ begunOf til f0 wz.js)) (by
          rw [List.filter_cons, if_pos (decide_eq_true (begun_ge hb))]
          simp))).1
        have hl2 := hoursOf_mem (h := h) (past := past) (til := til) (y := lastOf (f0 :: hrs) (begunOf til f0 wz.js)) (by rw [hho]; exact lin)
        obtain ⟨n', hn1, p', hp', hpn'⟩ := wanted_some hl2.2.2
        rw [hn1] at hnn
        cases hnn
        refine ⟨aheadOf h (begunOf til f0 wz.js) + 1, B9, by omega, g9.bh, (e06.trans g8.b).trans e9, g9, .inl ⟨_, nn, _, _, _, _, _, _, _, _, rfl, sc9, h6, ?_, ?_, ?_, ?_, rfl, fun s' t => told _ (Told.next hpm hho st nlt hb hn1 t)⟩⟩
        · unfold anewOf
          rw [List.length_map]
          omega
        · intro q hq
          obtain ⟨q', hq', rfl⟩ := List.mem_map.mp hq
          exact held_work hwo hws' q' hq'
        · rw [← hpn']
          exact HO.want _ hp'
        · have l1 := livedOf_len til (s1.names.length : Int) wz.js
          have l2 := unkOf_len (strangeOf ts ws1) f0
          refine ⟨?_, ?_, ?_, ?_⟩
          · show (s1.lived ++ livedOf til (s1.names.length : Int) wz.js).length + _ ≤ _
            rw [List.length_append]; omega
          · show (s1.lost ++ unkOf (strangeOf ts ws1) f0).length + _ ≤ _
            rw [List.length_append]; omega
          · show (s1.names ++ [pn]).length + _ ≤ _
            rw [nlen]; omega
          · show (s1.turned ++ [_]).length + _ ≤ _
            rw [List.length_append]
            show s1.turned.length + 1 + _ ≤ _
            omega
  · refine ⟨false, evt_test (evv_op (x := .non) (evv_var (i := 1) rfl) evv_c fun _ _ => evr_now (fun H _ Q q => ⟨rfl, q⟩) rfl), ?_, ?_⟩
    · intro z
      cases z
    intro _ H3 e3
    exact kk s' B2 H3 told (g2.ext e3) e2 (sc2.keep (.refl g2.bh.l) fun d u cd => cd.ext e3)
end
end K7

set_option Elab.async false
set_option linter.all false
set_option maxRecDepth 100000
set_option maxHeartbeats 8000000
namespace K7
open PySem PySem.Spec PySem.W L2 Pw
open PyProof.Rows hiding St
open Evl (sq_of st_of)
variable [Tbs]
/-! ### a story of a house -/
def wishes0 (h : Hs) : List W4 := (h.heard.filter fun q => decide (q.1 < h.hour)).map fun q => (q.1, q.2.1, q.2.2, q.1)
def StoryIs (K : PySem.W.Frag) (c : Cs) (h : Hs) : Hp → List (Str × V) → Prop := fun B fs => ∃ (a : StoryL) (hv : V) (s : StS), fs = storyF h.hour a.t a.l a.v a.n hv ∧ Told h h.hour (-1) h.first (wishes0 h) ⟨[], [], [], []⟩ s ∧
  LsOf K (DR K turnD) s.turned B (.ref a.t) ∧ LsOf K (DR K wD) s.lost B (.ref a.l) ∧ LsOf K (DR K livedD) s.lived B (.ref a.v) ∧ LsOf K (VR V.str) s.names B (.ref a.n)
structure HsGood (h : Hs) : Prop where
  ok : HsOk h
  first : h.first ∈ h.plans.map (·.1)
  len : h.heard.length ≤ 100
  work : ∀ q ∈ h.heard, 1 ≤ q.2.2
def R_Story (K : PySem.W.Frag) (c : Cs) : Hp → List V → (Hp → List (Str × V) → Prop) → Prop := fun B us P => ∃ (v : V) (h : Hs), us = [v] ∧ HouseAt K c B v h ∧ HsGood h ∧ P = StoryIs K c h
section
variable {P : Program} {w : World} {K : PySem.W.Frag} {mg : Str → Option Value} {base : Heap} {c : Cs} {f : Addr} {fd : FuncData}
abbrev s_Story_init : Stmt := inClass (top 24) 0
theorem sc_Story_init : FnScope ["self", "house", "wishes", "hour", "task", "work"] ["self", "house"] (defScope s_Story_init) := ⟨rfl, rfl, rfl, by decide +kernel, rfl, by decide +kernel, by decide +kernel⟩
/- slots: 0=self 1=house 2=wishes 3=hour 4=task 5=work -/
theorem ok_Story_init (F : Fun K "__init__" "Story.__init__" s_Story_init f fd) (T : Txt K mg c) (G_House_now : Gm P w K mg base 1 c.House "now" ["self"] [] (Pure (R_now K c))) (G_Story_walk : Gm P w K mg base 9 c.Story "walk" ["self", "name", "wishes"] [] (spWalk K c)) :
    FnOk P w K mg base CX0 10 f fd ["self", "house"] (Ctor c.Story (R_Story K c)) := by
  refine sp_ok F sc_Story_init (fun vs H Q E ⟨x, dx, us, B, P', h, _, _, _, ⟨v, hs, h2, _⟩, _⟩ => by rw [h, h2]; rfl) fun cdv A outer s0 Hh E hr => ?_
  have hu := hu_of hr
  refine ⟨_, (pss_cons (ps_fld (pv 0) (pe_gm0 (pv 1) T.c_House G_House_now (hr.mono (by decide))) rfl)
        (pss_cons (ps_fld (pv 0) (pe_lst pa_nil) rfl)
        (pss_cons (ps_fld (pv 0) (pe_lst pa_nil) rfl)
        (pss_cons (ps_fld (pv 0) (pe_lst pa_nil) rfl)
        (pss_cons (ps_fld (pv 0) (pe_lst pa_nil) rfl)
        (pss_cons (ps_fld (pv 0) (pv 1) rfl)
        (pss_cons (ps_setLc (i := 2) (own := [("hour", 3), ("task", 4), ("work", 5)]) rfl sc_Story_init.nd rfl rfl (sw_true rfl rfl rfl (by decide +kernel)) (pi_list (pe_fld (pv 1) rfl)) (blkOk_by (N := ["self", "house", "wishes", "hour", "task", "work"]) (sc := defScope s_Story_init) (by decide +kernel)) (fun _ _ _ _ _ => (pg_tupK (K := K) (n := 3) rfl (by rfl) (pgs_cons (pg_name (i := 3) sc_Story_init.nd rfl (by first | exact Or.inl rfl | exact Or.inr rfl)) (pgs_cons (pg_name (i := 4) sc_Story_init.nd rfl (by first | exact Or.inl rfl | exact Or.inr rfl)) (pgs_cons (pg_name (i := 5) sc_Story_init.nd rfl (by first | exact Or.inl rfl | exact Or.inr rfl)) pgs_nil))))) (fun _ _ _ _ _ => pts_one (pt_cmpR op_lt (pv 3) (pe_fldK (K := K) rfl (pv 0) rfl) (nomark _))) (fun _ _ _ _ _ => (pe_tup (pa_cons (pv 3) (pa_cons (pv 4) (pa_cons (pv 5) (pa_cons (pv 3) pa_nil)))))))
        (pss_one (ps_expr (pe_gm (pv 0) T.c_Story G_Story_walk (hr.mono (by decide)) (pa_cons (pe_fld (pv 1) rfl) (pa_cons (pv 2) pa_nil)))))))))))), fun vs H Q E' ⟨x, dx, us, B, P', hv, bh, hx, nb, ⟨v, h, h2, hh, HG, hP⟩, k⟩ => ?_⟩
  subst hv h2 hP
  obtain ⟨g0, c0⟩ := ctor_start bh hx nb
  refine q_fld g0 c0 rfl T.c_Story T.n_Story_until (by show 0 < 1000; decide) (ev_houseM (us := []) (evv_var (i := 1) rfl) hh rfl eva_nil fun B' e => ⟨v, h, rfl, MonoR.up (R := HouseAt K c) e hh, rfl⟩) fun w1 B1 H1 e1 g1 c1 p1 => ?_
  cases p1
  refine q_fldL g1 c1 rfl T.c_Story T.n_Story_turned (by show 1 < 1000; decide) fun lt H2 nt xt e2 g2 c2 d2 => ?_
  refine q_fldL g2 c2 rfl T.c_Story T.n_Story_lost (by show 2 < 1000; decide) fun ll H3 nl xl e3 g3 c3 l3 => ?_
  have t3 := d2.del xt e3
  refine q_fldL g3 c3 rfl T.c_Story T.n_Story_lived (by show 3 < 1000; decide) fun lv H4 nv xv e4 g4 c4 v4 => ?_
  have t4 := t3.del xt e4
  have l4 := l3.del xl e4
  refine q_fldL g4 c4 rfl T.c_Story T.n_Story_names (by show 4 < 1000; decide) fun ln H5 nn xn e5 g5 c5 n5 => ?_
  have t5 := t4.del xt e5
  have l5 := l4.del xl e5
  have v5 := v4.del xv e5
  have hh1 : HouseAt K c B1 v h := MonoR.up (R := HouseAt K c) e1 hh
  refine q_fldX (Pv := Is v) g5 c5 rfl T.c_Story T.n_Story_house (by show 5 < 1000; decide) (evv_var (i := 1) rfl) fun w6 B6 H6 e6 keep6 g6 c6 p6 => ?_
  cases p6
  have t6 := keep6 _ _ xt t5
  have l6 := keep6 _ _ xl l5
  have v6 := keep6 _ _ xv v5
  have n6 := keep6 _ _ xn n5
  -- the instance stands
  have g7 := g6.freeze c6
  have e7 : Ex B6 (upd B6 x (.ins c.Story dx (storyF h.hour lt ll lv ln v))) := Ex.new g6.bh.l c6.nb
  have d1 : lt ≠ ll := fun z => by rw [z] at d2; rw [d2.at_] at nl; cases nl
  have d2' : lt ≠ lv := fun z => by rw [z] at t3; rw [t3.at_] at nv; cases nv
  have d3 : lt ≠ ln := fun z => by rw [z] at t4; rw [t4.at_] at nn; cases nn
  have d4 : ll ≠ lv := fun z => by rw [z] at l3; rw [l3.at_] at nv; cases nv
  have d5 : ll ≠ ln := fun z => by rw [z] at l4; rw [l4.at_] at nn; cases nn
  have d6 : lv ≠ ln := fun z => by rw [z] at v4; rw [v4.at_] at nn; cases nn
  have sc7 : StoryC K c (delA H x) (upd B6 x (.ins c.Story dx (storyF h.hour lt ll lv ln v))) H6 x h.hour v ⟨lt, ll, lv, ln⟩ ⟨[], [], [], []⟩ :=
    ⟨⟨dx, upd_same⟩, ⟨[], t6.freeze xt, .nil⟩, ⟨[], l6.freeze xl, .nil⟩, ⟨[], v6.freeze xv, .nil⟩, ⟨[], n6.freeze xn, .nil⟩, by simp [d1, d2', d3, d4, d5, d6]⟩
  have hh7 : HouseAt K c (upd B6 x (.ins c.Story dx (storyF h.hour lt ll lv ln v))) v h := MonoR.up (R := HouseAt K c) (e6.trans e7) hh1
  -- wishes
  refine q_asg (σ := [some (.ref x), some v, none, none, none, none]) (Pv := LsOf K (DR K w4D) (wishes0 h)) g7 (by
    unfold wishes0
    refine evp_lcI (K := K) (R := DR K wD) (S := DR K w4D) (fun q : W3 => decide (q.1 < h.hour)) (fun q : W3 => (q.1, q.2.1, q.2.2, q.1)) (evi_list (ho_heard T (evv_var (i := 1) rfl) hh7)) (by have := HG.len; omega) fun B' y q e hq hy => ?_
    obtain ⟨px, rfl, sx⟩ := dp_tup [.int q.1, .str q.2.1, .int q.2.2] hy
    exact ⟨_, evg_tup sx rfl (evgs_cons evg_name (evgs_cons evg_name (evgs_cons evg_name evgs_nil))), rfl, evt_test (evv_I0 (evv_var (i := 3) rfl) (evv_fld (evv_var (i := 0) rfl) (e _ _ upd_same) T.c_Story T.n_Story_until rfl)), fun _ => evd_tup (K := K) (ds := [.int q.1, .str q.2.1, .int q.2.2, .int q.1]) (evds_cons (evd_int (evv_var (i := 3) rfl)) (evds_cons (evd_str (evv_var (i := 4) rfl)) (evds_cons (evd_int (evv_var (i := 5) rfl)) (evds_cons (evd_int (evv_var (i := 3) rfl)) evds_nil)))) (by simp)⟩) fun wv B8 H8 g8 g8' hwv => ?_
  refine s_methA (A := ConsP (Is (.str h.first)) (ConsP (LsOf K (DR K w4D) (wishes0 h)) (Iss []))) g8.bh (evv_var (i := 0) rfl) (g8'.b _ _ upd_same) rfl (eva_cons (ho_first T (evv_var (i := 1) rfl) (MonoR.up (R := HouseAt K c) g8'.b hh7)) fun B' e => eva_cons (P := LsOf K (DR K w4D) (wishes0 h)) (evp_var (i := 2) rfl (Mono.up (P := LsOf K (DR K w4D) (wishes0 h)) e hwv)) fun B'' e' => eva_nil) fun B9 H9 vs g9 ⟨v1, r1, h1, h2, ⟨wv', r2, h3, hwv', h4⟩⟩ => ?_
  cases h4
  cases h2
  subst h1 h3
  have wl : (wishes0 h).length ≤ 100 := by
    unfold wishes0
    rw [List.length_map]
    exact Nat.le_trans (List.length_filter_le _ _) HG.len
  refine ⟨B, delA H x, B9, x, h.hour, v, wv', ⟨lt, ll, lv, ln⟩, _, h, h.first, wishes0 h, rfl, g8.trans g9, sc7.keep (g8'.b.trans g9.b) fun d u cd => (cd.grow g8').grow g9, MonoR.up (R := HouseAt K c) (g8'.b.trans g9.b) hh7, hwv', wl, fun q hq => ?_, HG.ok, HG.first, rfl, fun s' B10 H10 told g10 e10 sc10 => ?_⟩
  · obtain ⟨q', hq', rfl⟩ := List.mem_map.mp hq
    exact HG.work _ (List.mem_filter.mp hq').1
  · have hx10 := ((g8'.b.trans g9.b).trans e10) _ _ (upd_same (H := B6) (a := x) (o := .ins c.Story dx (storyF h.hour lt ll lv ln v)))
    obtain ⟨_, ⟨y1, cl1, i1⟩, ⟨y2, cl2, i2⟩, ⟨y3, cl3, i3⟩, ⟨y4, cl4, i4⟩, _⟩ := sc10
    have gA := g10.freeze cl1
    have eA := Ex.new (o := .lst y1) g10.bh.l cl1.nb
    have m2 := cl2.freeze (c := lt) (o := .lst y1) d1.symm
    have m3 := cl3.freeze (c := lt) (o := .lst y1) d2'.symm
    have m4 := cl4.freeze (c := lt) (o := .lst y1) d3.symm
    have gB := gA.freeze m2
    have eB := Ex.new (o := .lst y2) gA.bh.l m2.nb
    have m3' := m3.freeze (c := ll) (o := .lst y2) d4.symm
    have m4' := m4.freeze (c := ll) (o := .lst y2) d5.symm
    have gC := gB.freeze m3'
    have eC := Ex.new (o := .lst y3) gB.bh.l m3'.nb
    have m4'' := m4'.freeze (c := lv) (o := .lst y3) d6.symm
    have gD := gC.freeze m4''
    have eD := Ex.new (o := .lst y4) gC.bh.l m4''.nb
    refine k _ _ gD ⟨_, (eA.trans (eB.trans (eC.trans eD))) _ _ hx10, ⟨lt, ll, lv, ln⟩, v, s', rfl, told, ?_, ?_, ?_, ?_⟩
    · exact ⟨lt, y1, rfl, (eB.trans (eC.trans eD)) _ _ upd_same, Mono.up (P := Items _ _) (eA.trans (eB.trans (eC.trans eD))) i1⟩
    · exact ⟨ll, y2, rfl, (eC.trans eD) _ _ upd_same, Mono.up (P := Items _ _) (eA.trans (eB.trans (eC.trans eD))) i2⟩
    · exact ⟨lv, y3, rfl, eD _ _ upd_same, Mono.up (P := Items _ _) (eA.trans (eB.trans (eC.trans eD))) i3⟩
    · exact ⟨ln, y4, rfl, upd_same, Mono.up (P := Items _ _) (eA.trans (eB.trans (eC.trans eD))) i4⟩
end
end K7

set_option Elab.async false
set_option linter.all false
set_option maxRecDepth 100000
set_option maxHeartbeats 8000000
namespace K7
open PySem PySem.Spec PySem.W L2 Pw
open PyProof.Rows hiding St
open Evl (sq_of st_of)
variable [Tbs]
/-! ### what is told of a house that stands -/
section
variable {K : PySem.W.Frag} {te ta : TE} {σ : L2.St} {B B' H0 B0 H : Hp} {C : Addr} {f : Str} {P : Hp → List (Str × V) → Prop} {Pv : Hp → V → Prop}
theorem evp_fldM (h : EvP te σ B (Made C P)) (c : Cls K C) (n : NoAttr K C f) (l : ∀ B' fs, Ex B B' → P B' fs → ∃ v, fs.lookup f = some v ∧ Pv B' v) : EvP (tFld K te f) σ B Pv := fun H bh Q q => h H bh _ fun w B1 H1 g ⟨a, dx, fs, e, ha, p⟩ => by
  subst e
  obtain ⟨v, h1, h2⟩ := l B1 fs g.b p
  exact ⟨a, C, dx, fs, v, rfl, g.bh _ _ ha, c, n, h1, q v B1 H1 g h2⟩
theorem evp_cbE {ι : Type} {r : List V → Hp → VK → Prop} {F G : ι → Hp → V → Prop} [∀ i, Mono (F i)] (h : EvP ta σ B (fun B' v => ∃ i, F i B' v)) (k : ∀ i B' v, Ex B B' → F i B' v → EvR (r [v]) B' (G i)) : EvP (tCB r (tCons ta tNil)) σ B (fun B' v => ∃ i, G i B' v) := fun H bh Q q => h H bh _ fun v B1 H1 g ⟨i, p⟩ =>
  k i B1 v g.b p H1 g.bh Q fun u B2 H2 g2 p2 => q u B2 H2 (g.trans g2) ⟨i, p2⟩
theorem sorted_R {β : Type} {enc : β → PyData} {bs : List β} {v : V} (h : LsOf K (DR K enc) bs B v) (hal : AllAlike (bs.map enc)) (hk : Sortable (bs.map enc)) (hz : bs.length ≤ 1000000) (hd : ∀ b ∈ bs, (enc b).depth ≤ 50) : EvR (rSortedD K [v]) B (LsOf K (DR K enc) (srt enc bs)) := fun H bh Q q => evp_sorted (σ := []) (ta := tC v) (evp_c h) hal hk hz hd H bh Q q
/-- o.append(e), o mine, read of all that stands -/
theorem s_appH {D : Ends} {to_ : TE} {l : Addr} {ys : List V} (g : Grow B0 H0 B H) (cl : Cell H0 B H l (.lst ys)) (ho : EvV to_ σ H (.ref l)) (h : EvP te σ B Pv) [Mono Pv] (hz : ys.length ≤ 1000000)
    (k : ∀ v B' H', Ex B B' → (∀ d u, d ≠ l → Cell H0 B H d u → Cell H0 B' H' d u) → Grow B0 H0 B' H' → Cell H0 B' H' l (.lst (ys ++ [v])) → Pv B' v → D.nx σ H') : tDrop (tBM K "list" rAppend to_ (tCons te tNil)) D σ H :=
  ho H (.refl g.bh.r) _ fun w B1 H1 g1 e => by
    cases e
    have c1 := cl.ext g1.h
    have gx := g.ext g1.h
    refine ⟨.inl ⟨rfl, ys, sq_of c1.at_⟩, h H1 gx.bh _ fun v B' H' g' p => ?_⟩
    exact ⟨l, ys, v, rfl, rfl, (c1.grow g').at_, Nat.lt_of_le_of_lt hz (by decide), k v B' _ g'.b (fun d u nd cd => ((cd.ext g1.h).grow g').other nd) ((gx.trans g').mut (c1.grow g')) (c1.grow g').set p⟩
end
theorem alike_w3 (ps : List W3) : AllAlike (ps.map wD) := AllAlike.of fun a b => by simp [wD, alike, alikeAll]
theorem sortable_w3 (ps : List W3) : Sortable (ps.map wD) := Sortable.tuples fun b => ⟨_, _, rfl⟩
theorem depth_w3 (p : W3) : (wD p).depth ≤ 50 := by simp [wD, PyData.depth, PyData.depthAll]
theorem told_lost {h : Hs} {til past : Int} {n : Str} {ws : List W4} {s s' : StS} (HO : HsOk h) (t : Told h til past n ws s s') : ws.length ≤ 100 → s'.lost.length ≤ s.lost.length + 100 * (aheadOf h past + 1) := by
  induction t with
  | last hp hh st nl =>
    rename_i past name ws s ts w
    intro hl
    have := own_len ts ws
    have := unkOf_len (strangeOf ts ws) til
    show (s.lost ++ _).length ≤ _
    rw [List.length_append]; omega
  | stop hp hh st nl hb =>
    rename_i past name ws s ts w f0 hr
    intro hl
    have := own_len ts ws
    have := unkOf_len (strangeOf ts ws) f0
    show (s.lost ++ _).length ≤ _
    rw [List.length_append]; omega
  | next hp hh st nl hb hn tt ih =>
    rename_i past name n ws s s' ts w f0 hr
    intro hl
    have O : TsOk ts := HO.plans _ hp
    have e1 := own_len ts ws
    have e2 := unkOf_len (strangeOf ts ws) f0
    have hf0 := hoursOf_mem (h := h) (past := past) (til := til) (y := f0) (by rw [hh]; exact List.mem_cons_self)
    have e3 := ahead_lt (h := h) hf0.1 (begun_ge hb) hf0.2.2
    have e4 := held_len (own := ownOf ts ws) (strange := strangeOf ts ws) (f0 := f0) O.un.names
    have e5 := ih (by unfold anewOf; rw [List.length_map]; omega)
    have e6 : (s.lost ++ unkOf (strangeOf ts ws) f0).length = s.lost.length + (unkOf (strangeOf ts ws) f0).length := List.length_append
    simp only [] at e5
    rw [e6] at e5
    omega
def ToldOf (h : Hs) (s : StS) : Prop := Told h h.hour (-1) h.first (wishes0 h) ⟨[], [], [], []⟩ s
theorem wishes0_len (h : Hs) : (wishes0 h).length ≤ h.heard.length := by
  unfold wishes0
  rw [List.length_map]
  exact List.length_filter_le _ _
def R_houseOf (K : PySem.W.Frag) (c : Cs) (F : StS → Hp → V → Prop) : Hp → List V → (Hp → V → Prop) → Prop := fun B vs P => ∃ (v : V) (h : Hs), vs = [v] ∧ HouseAt K c B v h ∧ HsGood h ∧ P = fun B' u => ∃ s, ToldOf h s ∧ F s B' u
abbrev F_jobs (K : PySem.W.Frag) : StS → Hp → V → Prop := fun s => LsOf K (DR K livedD) s.lived
abbrev F_changes (K : PySem.W.Frag) : StS → Hp → V → Prop := fun s => LsOf K (DR K turnD) s.turned
abbrev F_dropped (K : PySem.W.Frag) : StS → Hp → V → Prop := fun s => LsOf K (DR K wD) (srt wD s.lost)
section
variable {P : Program} {w : World} {K : PySem.W.Frag} {mg : Str → Option Value} {base : Heap} {c : Cs} {f : Addr} {fd : FuncData}
theorem ev_story {σ : L2.St} {B : Hp} {te : TE} {v : V} {h : Hs} {E : XK} (hv : EvV te σ B v) (hh : HouseAt K c B v h) (HG : HsGood h) : EvP (tMake c.Story (Ctor c.Story (R_Story K c)) [] E (tCons te tNil)) σ B (Made c.Story (StoryIs K c h)) :=
  evp_make (A := Iss [v]) (evas_cons hv eva_nil) fun B' vs e hvs => by
    cases hvs
    exact ⟨v, h, rfl, MonoR.up (R := HouseAt K c) e hh, HG, rfl⟩
abbrev s_House_jobs : Stmt := inClass (top 25) 9
theorem sc_House_jobs : FnScope ["self"] ["self"] (defScope s_House_jobs) := ⟨rfl, rfl, rfl, by decide +kernel, rfl, by decide +kernel, by decide +kernel⟩
/- slots: 0=self -/
theorem ok_House_jobs (F : Fun K "jobs" "House.jobs" s_House_jobs f fd) (T : Txt K mg c) (G_Story : Gc P w K mg base 10 "Story" c.Story ["self", "house"] [] (Ctor c.Story (R_Story K c))) : FnOk P w K mg base CX0 12 f fd ["self"] (Pure (R_houseOf K c (F_jobs K))) := by
  refine pure_ok F sc_House_jobs (fun B vs P' ⟨v, h, e, _⟩ => by rw [e]; rfl) fun cdv A outer s H0 E hr => ?_
  refine ⟨_, (pss_one (ps_ret (pe_fld (pe_gc G_Story (hr.mono (by decide)) (by rfl) (pa_cons (pv 0) pa_nil)) rfl))), fun B vs P' ⟨v, h, hv, hh, HG, hP⟩ => ?_⟩
  subst hv hP
  exact evs_ret (evp_fldM (ev_story (evv_var rfl) hh HG) T.c_Story T.n_Story_lived fun B' fs e ⟨a, hv, s, h1, h2, h3, h4, h5, h6⟩ => ⟨_, by rw [h1]; rfl, s, h2, h5⟩)
abbrev s_House_changes : Stmt := inClass (top 25) 7
theorem sc_House_changes : FnScope ["self"] ["self"] (defScope s_House_changes) := ⟨rfl, rfl, rfl, by decide +kernel, rfl, by decide +kernel, by decide +kernel⟩
/- slots: 0=self -/
theorem ok_House_changes (F : Fun K "changes" "House.changes" s_House_changes f fd) (T : Txt K mg c) (G_Story : Gc P w K mg base 10 "Story" c.Story ["self", "house"] [] (Ctor c.Story (R_Story K c))) : FnOk P w K mg base CX0 12 f fd ["self"] (Pure (R_houseOf K c (F_changes K))) := by
  refine pure_ok F sc_House_changes (fun B vs P' ⟨v, h, e, _⟩ => by rw [e]; rfl) fun cdv A outer s H0 E hr => ?_
  refine ⟨_, (pss_one (ps_ret (pe_fld (pe_gc G_Story (hr.mono (by decide)) (by rfl) (pa_cons (pv 0) pa_nil)) rfl))), fun B vs P' ⟨v, h, hv, hh, HG, hP⟩ => ?_⟩
  subst hv hP
  exact evs_ret (evp_fldM (ev_story (evv_var rfl) hh HG) T.c_Story T.n_Story_turned fun B' fs e ⟨a, hv, s, h1, h2, h3, h4, h5, h6⟩ => ⟨_, by rw [h1]; rfl, s, h2, h3⟩)
abbrev s_House_dropped : Stmt := inClass (top 25) 8
theorem sc_House_dropped : FnScope ["self"] ["self"] (defScope s_House_dropped) := ⟨rfl, rfl, rfl, by decide +kernel, rfl, by decide +kernel, by decide +kernel⟩
/- slots: 0=self -/
theorem ok_House_dropped (F : Fun K "dropped" "House.dropped" s_House_dropped f fd) (T : Txt K mg c) (G_Story : Gc P w K mg base 10 "Story" c.Story ["self", "house"] [] (Ctor c.Story (R_Story K c))) : FnOk P w K mg base CX0 12 f fd ["self"] (Pure (R_houseOf K c (F_dropped K))) := by
  refine pure_ok F sc_House_dropped (fun B vs P' ⟨v, h, e, _⟩ => by rw [e]; rfl) fun cdv A outer s H0 E hr => ?_
  refine ⟨_, (pss_one (ps_ret (pe_callB (call_sortedDat hr.units) (by rfl) T.b_sorted (by decide +kernel) (pa_cons (pe_fld (pe_gc G_Story (hr.mono (by decide)) (by rfl) (pa_cons (pv 0) pa_nil)) rfl) pa_nil)))), fun B vs P' ⟨v, h, hv, hh, HG, hP⟩ => ?_⟩
  subst hv hP
  haveI : ∀ s : { s : StS // ToldOf h s }, Mono (LsOf K (DR K wD) s.1.lost) := fun s => inferInstance
  refine evs_ret (EvP.imp (Pa := fun B' u => ∃ s : { s : StS // ToldOf h s }, LsOf K (DR K wD) (srt wD s.1.lost) B' u) (evp_cbE (F := fun s : { s : StS // ToldOf h s } => LsOf K (DR K wD) s.1.lost) (evp_fldM (ev_story (evv_var rfl) hh HG) T.c_Story T.n_Story_lost fun B' fs e ⟨a, hv, s, h1, h2, h3, h4, h5, h6⟩ => ⟨_, by rw [h1]; rfl, ⟨s, h2⟩, h4⟩) fun s B' v e hl => sorted_R hl (alike_w3 _) (sortable_w3 _) ?_ fun b _ => depth_w3 b) fun B' u e ⟨s, hs⟩ => ⟨s.1, s.2, hs⟩)
  have := told_lost HG.ok s.2 (Nat.le_trans (wishes0_len h) HG.len)
  have a0 : aheadOf h (-1) ≤ 1000 := Nat.le_trans (List.length_filter_le _ _) HG.ok.len
  have z : (⟨[], [], [], []⟩ : StS).lost.length = 0 := rfl
  omega
end
/-! ### houses of mine -/
structure HouseL where
  x : Addr
  l : Addr
  w : Addr
structure HouseC (K : PySem.W.Frag) (c : Cs) (H0 B H : Hp) (a : HouseL) (h : Hs) : Prop where
  obj : ∃ dx pv, Cell H0 B H a.x (.ins c.House dx (houseF pv h.first (.ref a.l) (.ref a.w) h.hour)) ∧ FzMap (PlanAt K c) h.plans B pv
  l : ∃ ys, Cell H0 B H a.l (.lst ys) ∧ Items (DR K wD) h.heard B ys
  w : Cell H0 B H a.w (.dK (wantedK h.wanted))
section
variable {K : PySem.W.Frag} {c : Cs} {H0 B0 B H B' H' H1 : Hp} {a : HouseL} {h : Hs}
theorem HouseC.keep (h1 : HouseC K c H0 B H a h) (e : Ex B B') (k : ∀ d u, Cell H0 B H d u → Cell H0 B' H' d u) : HouseC K c H0 B' H' a h := by
  obtain ⟨⟨dx, pv, c1, f1⟩, ⟨ys, c2, i2⟩, c3⟩ := h1
  exact ⟨⟨dx, pv, k _ _ c1, Mono.up e f1⟩, ⟨ys, k _ _ c2, Mono.up (P := Items _ _) e i2⟩, k _ _ c3⟩
theorem HouseC.at_ (h1 : HouseC K c H0 B H a h) (e : Ex B H) : HouseAt K c H (.ref a.x) h := by
  obtain ⟨⟨dx, pv, c1, f1⟩, ⟨ys, c2, i2⟩, c3⟩ := h1
  exact ⟨a.x, dx, _, rfl, c1.at_, pv, .ref a.l, a.w, rfl, Mono.up e f1, ⟨a.l, ys, rfl, c2.at_, Mono.up (P := Items _ _) e i2⟩, c3.at_⟩
theorem HouseC.xl (h1 : HouseC K c H0 B H a h) : a.x ≠ a.l := fun z => by
  obtain ⟨⟨dx, pv, c1, f1⟩, ⟨ys, c2, i2⟩, c3⟩ := h1
  rw [z, ] at c1
  have := c1.at_.symm.trans c2.at_
  cases this
theorem HouseC.xw (h1 : HouseC K c H0 B H a h) : a.x ≠ a.w := fun z => by
  obtain ⟨⟨dx, pv, c1, f1⟩, ⟨ys, c2, i2⟩, c3⟩ := h1
  rw [z] at c1
  have := c1.at_.symm.trans c3.at_
  cases this
theorem HouseC.lw (h1 : HouseC K c H0 B H a h) : a.l ≠ a.w := fun z => by
  obtain ⟨⟨dx, pv, c1, f1⟩, ⟨ys, c2, i2⟩, c3⟩ := h1
  rw [z] at c2
  have := c2.at_.symm.trans c3.at_
  cases this
/-- it stands for good from here on -/
theorem HouseC.freeze (g : Grow B0 H0 B H) (h1 : HouseC K c H0 B H a h) : ∃ B', Grow B0 H0 B' H ∧ Ex B B' ∧ HouseAt K c B' (.ref a.x) h ∧ ∀ d u, d ≠ a.x → d ≠ a.l → d ≠ a.w → Cell H0 B H d u → Cell H0 B' H d u := by
  have n1 := h1.xl
  have n2 := h1.xw
  have n3 := h1.lw
  obtain ⟨⟨dx, pv, c1, f1⟩, ⟨ys, c2, i2⟩, c3⟩ := h1
  have gA := g.freeze c1
  have eA := Ex.new (o := .ins c.House dx (houseF pv h.first (.ref a.l) (.ref a.w) h.hour)) g.bh.l c1.nb
  have m2 := c2.freeze (c := a.x) (o := .ins c.House dx (houseF pv h.first (.ref a.l) (.ref a.w) h.hour)) n1.symm
  have m3 := c3.freeze (c := a.x) (o := .ins c.House dx (houseF pv h.first (.ref a.l) (.ref a.w) h.hour)) n2.symm
  have gB := gA.freeze m2
  have eB := Ex.new (o := .lst ys) gA.bh.l m2.nb
  have m3' := m3.freeze (c := a.l) (o := .lst ys) n3.symm
  have gC := gB.freeze m3'
  have eC := Ex.new (o := .dK (wantedK h.wanted)) gB.bh.l m3'.nb
  refine ⟨_, gC, eA.trans (eB.trans eC), ⟨a.x, dx, _, rfl, (eB.trans eC) _ _ upd_same, pv, .ref a.l, a.w, rfl, Mono.up (eA.trans (eB.trans eC)) f1, ⟨a.l, ys, rfl, eC _ _ upd_same, Mono.up (P := Items _ _) (eA.trans (eB.trans eC)) i2⟩, upd_same⟩, fun d u q1 q2 q3 cd => ((cd.freeze q1).freeze q2).freeze q3⟩
end
end K7

set_option Elab.async false
set_option linter.all false
set_option maxRecDepth 100000
set_option maxHeartbeats 8000000
namespace K7
open PySem PySem.Spec PySem.W L2 Pw
open PyProof.Rows hiding St
open Evl (sq_of st_of)
variable [Tbs]
/-! ### a house is made, wished, changed, run -/
def putW (ws : List (Int × Str)) (k : Int) (n : Str) : List (Int × Str) := if ws.any (fun p => decide (p.1 = k)) then ws.map (fun p => if p.1 = k then (p.1, n) else p) else ws ++ [(k, n)]
theorem putW_put (ws : List (Int × Str)) (k : Int) (n : Str) : putK (wantedK ws) (.inl k) (.str n) = wantedK (putW ws k n) := by
  have h1 : ((wantedK ws).any fun kv => decide (kv.1 = (.inl k : Key))) = ws.any fun p => decide (p.1 = k) := by
    unfold wantedK
    rw [List.any_map]
    congr 1
    funext p
    simp
  unfold putK putW
  rw [h1]
  by_cases z : (ws.any fun p => decide (p.1 = k)) = true
  · rw [if_pos z, if_pos z]
    unfold wantedK
    rw [List.map_map, List.map_map]
    refine List.map_congr_left fun p _ => ?_
    by_cases y : p.1 = k
    · simp [y]
    · simp [y]
  · rw [if_neg z, if_neg z]
    unfold wantedK
    rw [List.map_append]
    rfl
def spHouse (K : PySem.W.Frag) (c : Cs) : Sp := fun vs H Q _ => ∃ (B : Hp) (x dx : Addr) (pv : V) (first : Str) (plans : List (Str × List TaskD)), vs = [.ref x, pv, .str first] ∧ Ex B H ∧ H x = some (.ins c.House dx []) ∧ B x = none ∧ FzMap (PlanAt K c) plans B pv ∧ first ∈ plans.map (·.1) ∧
  ∀ B' H' l wd, Grow B (delA H x) B' H' → HouseC K c (delA H x) B' H' ⟨x, l, wd⟩ ⟨plans, first, [], [], 0⟩ → Q .non H'
def spWish (K : PySem.W.Frag) (c : Cs) : Sp := fun vs H Q _ => ∃ (B0 H0 B : Hp) (a : HouseL) (h : Hs) (hour work : Int) (task : Str), vs = [.ref a.x, .int hour, .str task, .int work] ∧ Grow B0 H0 B H ∧ HouseC K c H0 B H a h ∧ h.hour ≤ hour ∧ 1 ≤ work ∧ (h.plans.map (·.1)).Nodup ∧ h.plans.length ≤ 100 ∧ (∀ p ∈ h.plans, p.2.length ≤ 60) ∧ (∃ p ∈ h.plans, ∃ t ∈ p.2, t.name = task) ∧ h.heard.length ≤ 1000 ∧
  ∀ B' H', Ex B B' → Grow B0 H0 B' H' → HouseC K c H0 B' H' a { h with heard := h.heard ++ [(hour, task, work)] } → (∀ d u, d ≠ a.x → d ≠ a.l → d ≠ a.w → Cell H0 B H d u → Cell H0 B' H' d u) → Q .non H'
def spChange (K : PySem.W.Frag) (c : Cs) : Sp := fun vs H Q _ => ∃ (B0 H0 B : Hp) (a : HouseL) (h : Hs) (hour : Int) (name : Str), vs = [.ref a.x, .int hour, .str name] ∧ Grow B0 H0 B H ∧ HouseC K c H0 B H a h ∧ h.hour ≤ hour ∧ name ∈ h.plans.map (·.1) ∧ h.wanted.length ≤ 1000 ∧
  ∀ H', Grow B0 H0 B H' → HouseC K c H0 B H' a { h with wanted := putW h.wanted hour name } → (∀ d u, d ≠ a.x → d ≠ a.l → d ≠ a.w → Cell H0 B H d u → Cell H0 B H' d u) → Q .non H'
def spRun (K : PySem.W.Frag) (c : Cs) : Sp := fun vs H Q _ => ∃ (B0 H0 B : Hp) (a : HouseL) (h : Hs) (hour : Int), vs = [.ref a.x, .int hour] ∧ Grow B0 H0 B H ∧ HouseC K c H0 B H a h ∧ h.hour ≤ hour ∧
  ∀ H', Grow B0 H0 B H' → HouseC K c H0 B H' a { h with hour := hour } → (∀ d u, d ≠ a.x → d ≠ a.l → d ≠ a.w → Cell H0 B H d u → Cell H0 B H' d u) → Q .non H'
section
variable {P : Program} {w : World} {K : PySem.W.Frag} {mg : Str → Option Value} {base : Heap} {c : Cs} {f : Addr} {fd : FuncData}
theorem first_some {R : Rl (List TaskD)} {plans : List (Str × List TaskD)} {n : Str} {B : Hp} {kvs : List (Key × V)} (d : DMap (SnR R) sKey plans B kvs) (h : n ∈ plans.map (·.1)) : (valV kvs (.inr n)).isSome = true := by
  obtain ⟨p, hp, rfl⟩ := List.mem_map.mp h
  obtain ⟨v, hv, _⟩ := d.at_ p hp
  rw [show valV kvs (.inr p.1) = some v from hv]
  rfl
abbrev s_House_init : Stmt := inClass (top 25) 0
theorem sc_House_init : FnScope ["self", "plans", "first"] ["self", "plans", "first"] (defScope s_House_init) := ⟨rfl, rfl, rfl, by decide +kernel, rfl, by decide +kernel, by decide +kernel⟩
/- slots: 0=self 1=plans 2=first -/
theorem ok_House_init (F : Fun K "__init__" "House.__init__" s_House_init f fd) (T : Txt K mg c) : FnOk P w K mg base CX0 1 f fd ["self", "plans", "first"] (spHouse K c) := by
  refine sp_ok F sc_House_init (fun vs H Q E ⟨B, x, dx, pv, first, plans, h, _⟩ => by rw [h]; rfl) fun cdv A outer s0 Hh E hr => ?_
  have hu := hu_of hr
  refine ⟨_, (pss_cons (ps_if (pt_cmp (pc_dnotin hu (pv 2) (pv 1))) (pss_one ps_never) pss_nil)
        (pss_cons (ps_fld (pv 0) (pe_fz (pe_callTy (call_dictD) (by rfl) T.b_dict (by decide +kernel) (pa_cons (pv 1) pa_nil))) rfl)
        (pss_cons (ps_fld (pv 0) (pv 2) rfl)
        (pss_cons (ps_fld (pv 0) (pe_lst pa_nil) rfl)
        (pss_cons (ps_fld (pv 0) (pe_dnewK) rfl)
        (pss_one (ps_fld (pv 0) pe_int rfl))))))), fun vs H Q E' ⟨B, x, dx, pv, first, plans, hv, bh, hx, nb, hp, hf, k⟩ => ?_⟩
  subst hv
  obtain ⟨g0, c0⟩ := ctor_start bh hx nb
  obtain ⟨kvs, hfz, dm⟩ := id hp
  refine q_unless g0 (evt_val (evv_cast (evv_dnotinR (k := .inr first) (evp_var (i := 1) rfl hfz.rd) (evv_var (i := 2) rfl)) (by rw [first_some dm hf]; rfl))) fun B0 H0 gg0 gg0' => ?_
  have cc0 := c0.grow gg0'
  have dm0 := dm.up gg0'.b
  refine q_fld gg0 cc0 rfl T.c_House T.n_House_plans (by show 0 < 1000; decide) (evp_dictFz (P := FzMap (PlanAt K c) plans) (evp_var (P := RdD kvs) (i := 1) rfl (Mono.up gg0'.b hfz.rd)) fun B' v e hf => ⟨kvs, hf, dm0.up e⟩) fun pv1 B1 H1 e1 g1 c1 p1 => ?_
  refine q_fld g1 c1 rfl T.c_House T.n_House_first (by show 1 < 1000; decide) (evv_var (i := 2) rfl) fun w2 B2 H2 e2 g2 c2 p2 => ?_
  cases p2
  refine q_fldL g2 c2 rfl T.c_House T.n_House_heard (by show 2 < 1000; decide) fun l H3 nl xl e3 g3 c3 d3 => ?_
  refine q_fldD g3 c3 rfl T.c_House T.n_House_wanted (by show 3 < 1000; decide) fun wd H4 nw xw e4 g4 c4 d4 => ?_
  have l4 := d3.del xl e4
  refine s_fld (D := { nx := fun _ H' => Q .non H', rt := Q }) (Pv := Is (.int 0)) g4 c4 rfl T.c_House T.n_House_hour (by show 4 < 1000; decide) evv_c fun w5 B5 H5 _ gg5 c5 g5 p5 => ?_
  cases p5
  refine k B5 _ l wd g5 ⟨⟨dx, pv1, c5, Mono.up (P := FzMap (PlanAt K c) plans) (e2.trans gg5.b) p1⟩, ⟨[], (l4.grow gg5).other xl, .nil⟩, (d4.grow gg5).other xw⟩
abbrev s_House_wish : Stmt := inClass (top 25) 3
theorem sc_House_wish : FnScope ["self", "hour", "task", "work", "plan", "one"] ["self", "hour", "task", "work"] (defScope s_House_wish) := ⟨rfl, rfl, rfl, by decide +kernel, rfl, by decide +kernel, by decide +kernel⟩
/- slots: 0=self 1=hour 2=task 3=work 4=plan 5=one -/
theorem ok_House_wish (F : Fun K "wish" "House.wish" s_House_wish f fd) (T : Txt K mg c) (G_House_need_hour : Gm P w K mg base 1 c.House "need_hour" ["self", "hour"] [] (Pure (R_needHour K c))) (G_Plan_tasks : Gm P w K mg base 1 c.Plan "tasks" ["self"] [] (Pure (R_planTasks K c))) : FnOk P w K mg base CX0 2 f fd ["self", "hour", "task", "work"] (spWish K c) := by
  refine sp_ok F sc_House_wish (fun vs H Q E ⟨B0, H0, B, a, h, hour, work, task, e, _⟩ => by rw [e]; rfl) fun cdv A outer s0 Hh E hr => ?_
  have hu := hu_of hr
  refine ⟨_, (pss_cons (ps_expr (pe_gm (pv 0) T.c_House G_House_need_hour (hr.mono (by decide)) (pa_cons (pv 1) pa_nil)))
        (pss_cons (ps_if (pt_not (pt_val (pe_callB (cr_any rfl) (by rfl) T.b_any (by decide +kernel) (pa_cons (pe_lc2 (own := [("plan", 4), ("one", 5)]) (vs1 := [5]) rfl sc_House_wish.nd (pi_values (pe_fld (pv 0) rfl)) (blkOk_by (N := ["self", "hour", "task", "work", "plan", "one"]) (sc := defScope s_House_wish) (by decide +kernel)) (by decide) (fun _ _ _ _ _ => (pg_name (i := 4) sc_House_wish.nd rfl (by first | exact Or.inl rfl | exact Or.inr rfl))) (fun _ _ _ _ _ => pts_nil) (fun _ _ _ _ _ => (pi_listK (K := K) rfl (pe_gm0 (pv 4) T.c_Plan G_Plan_tasks (hr.mono (by decide))))) (fun _ _ _ _ _ => (pg_name (i := 5) sc_House_wish.nd rfl (by first | exact Or.inl rfl | exact Or.inr rfl))) (fun _ _ _ _ _ => pts_nil) (fun _ _ _ _ _ => (pe_cmpR op_eq (pv 2) (pe_fldK (K := K) rfl (pv 5) rfl) (nomark _)))) pa_nil)))) (pss_one ps_never) pss_nil)
        (pss_cons (ps_if (pt_cmpR op_lt (pv 3) pe_int (nomark _)) (pss_one ps_never) pss_nil)
        (pss_one (ps_expr (pe_bm PySem.F.plainAttrs_list PySem.F.slot_list_append PySem.F.type_list_append mt_append (pe_fld (pv 0) rfl) (pa_cons (pe_tup (pa_cons (pv 1) (pa_cons (pv 2) (pa_cons (pv 3) pa_nil)))) pa_nil))))))), fun vs H Q E' ⟨B0, H0, B, a, h, hour, work, task, hv, g, hc, hh, hw, nd, pl, tl, ht, hl, k⟩ => ?_⟩
  subst hv
  have hat := hc.at_ g.bh
  refine q_dropH g.bh.r (ev_houseM (us := [.int hour]) (Pv := Is .non) (evv_var (i := 0) rfl) hat rfl (evas_cons (evv_var (i := 1) rfl) eva_nil) fun B' e => ⟨_, h, hour, rfl, MonoR.up (R := HouseAt K c) e hat, hh, rfl⟩) fun H1 e1 => ?_
  have g1 := g.ext e1
  have hc1 := hc.keep (.refl g.bh.l) fun d u cd => cd.ext e1
  have hat1 := hc1.at_ g1.bh
  obtain ⟨ha, hdx, hfs, e0, hha, pv, hvv, wd, rfl, hpm, hhe, hwd⟩ := id hat1
  cases e0
  have hany : EvV (tCB (rAny K) (tCons (tLc2 (iVals (tFld K (tVar 0) "plans")) (gName 4) tYes (iList K (tMeth c.Plan "tasks" (Pure (R_planTasks K c)) [] E0 (tVar 4) tNil)) (gName 5) tYes (tOp rEq (tVar 2) (tFld K (tVar 5) "name")) [4, 5] [5]) tNil)) [some (.ref a.x), some (.int hour), some (.str task), some (.int work), none, none] H1 (.bl true) := by
    refine evv_cast (evv_any (bs := h.plans.flatMap fun p => (byRank p.2).map fun t => decide (V.str task = V.str t.name)) (evp_lc2 (R := SnR (PlanAt K c)) (R1 := TaskAt K c) (S := VR V.bl) (fun p : Str × List TaskD => byRank p.2) (fun p t => decide (V.str task = V.str t.name)) (evi_valsF nd (evp_fld (P := FzMap (PlanAt K c) h.plans) (evv_var (i := 0) rfl) hha T.c_House T.n_House_plans rfl hpm)) ?_ fun B' y p e hp hy => ⟨_, evg_name, rfl, evi_list (ev_tasks (evv_var (i := 4) rfl) hy), fun B2 z t e2 hm hz => ⟨_, evg_name, rfl, evv_eq (evv_var (i := 2) rfl) (tk_name (i := 5) T rfl hz) rfl⟩⟩)) ?_
    · refine Nat.le_trans (flat_len_le (m := 60) fun p hp => ?_) (Nat.le_trans (Nat.mul_le_mul_right _ pl) (by decide))
      rw [List.length_map, (byRank_perm p.2).length_eq]
      exact tl p hp
    · obtain ⟨p, hp, t, htm, htn⟩ := ht
      have : ((h.plans.flatMap fun p => (byRank p.2).map fun t => decide (V.str task = V.str t.name)).any id) = true := by
        rw [List.any_eq_true]
        refine ⟨true, List.mem_flatMap.mpr ⟨p, hp, List.mem_map.mpr ⟨t, (byRank_perm p.2).mem_iff.mpr htm, ?_⟩⟩, rfl⟩
        rw [htn]
        exact decide_eq_true rfl
      rw [this]
  refine q_unlessH g1 (evt_not (evt_val hany)) fun H2 e2 _ => ?_
  have g2 := g1.ext e2
  have hc2 := hc1.keep (.refl g1.bh.l) fun d u cd => cd.ext e2
  refine q_unlessH g2 (evt_eq (evt_test (evv_I0 (evv_var (i := 3) rfl) evv_c)) (by rw [decide_eq_false (by omega)])) fun H3 e3 _ => ?_
  have g3 := g2.ext e3
  have hc3 := hc2.keep (.refl g2.bh.l) fun d u cd => cd.ext e3
  have n1 := hc3.xl
  have n2 := hc3.xw
  have n3 := hc3.lw
  obtain ⟨⟨dx3, pv3, o3, f3⟩, ⟨ys, l3, i3⟩, w3⟩ := id hc3
  have yl : ys.length = h.heard.length := Paired.length i3
  refine s_appH (D := { nx := fun _ H' => Q .non H', rt := Q }) (Pv := fun B' u => Dp K B' u (wD (hour, task, work))) g3 l3 (evv_fld (evv_var (i := 0) rfl) o3.at_ T.c_House T.n_House_heard rfl) (evd_tup (K := K) (ds := [.int hour, .str task, .int work]) (evds_cons (evd_int (evv_var (i := 1) rfl)) (evds_cons (evd_str (evv_var (i := 2) rfl)) (evds_cons (evd_int (evv_var (i := 3) rfl)) evds_nil))) (by simp)) (by omega) fun w4 B4 H4 e4 keep4 g4 c4 p4 => ?_
  refine k B4 H4 e4 g4 ⟨⟨dx3, pv3, keep4 _ _ n1 o3, Mono.up (P := FzMap (PlanAt K c) h.plans) e4 f3⟩, ⟨_, c4, paired_app (Mono.up (P := Items (DR K wD) h.heard) e4 i3) (.cons p4 .nil)⟩, keep4 _ _ n3.symm w3⟩ fun d u q1 q2 q3 cd => keep4 _ _ q2 (((cd.ext e1).ext e2).ext e3)
abbrev s_House_change : Stmt := inClass (top 25) 4
theorem sc_House_change : FnScope ["self", "hour", "name"] ["self", "hour", "name"] (defScope s_House_change) := ⟨rfl, rfl, rfl, by decide +kernel, rfl, by decide +kernel, by decide +kernel⟩
/- slots: 0=self 1=hour 2=name -/
theorem ok_House_change (F : Fun K "change" "House.change" s_House_change f fd) (T : Txt K mg c) (G_House_need_hour : Gm P w K mg base 1 c.House "need_hour" ["self", "hour"] [] (Pure (R_needHour K c))) : FnOk P w K mg base CX0 2 f fd ["self", "hour", "name"] (spChange K c) := by
  refine sp_ok F sc_House_change (fun vs H Q E ⟨B0, H0, B, a, h, hour, name, e, _⟩ => by rw [e]; rfl) fun cdv A outer s0 Hh E hr => ?_
  have hu := hu_of hr
  refine ⟨_, (pss_cons (ps_expr (pe_gm (pv 0) T.c_House G_House_need_hour (hr.mono (by decide)) (pa_cons (pv 1) pa_nil)))
        (pss_cons (ps_if (pt_cmp (pc_dnotin hu (pv 2) (pe_fld (pv 0) rfl))) (pss_one ps_never) pss_nil)
        (pss_one (ps_dput hu (pe_fld (pv 0) rfl) (pv 1) (pv 2) rfl)))), fun vs H Q E' ⟨B0, H0, B, a, h, hour, name, hv, g, hc, hh, hn, hl, k⟩ => ?_⟩
  subst hv
  have hat := hc.at_ g.bh
  refine q_dropH g.bh.r (ev_houseM (us := [.int hour]) (Pv := Is .non) (evv_var (i := 0) rfl) hat rfl (evas_cons (evv_var (i := 1) rfl) eva_nil) fun B' e => ⟨_, h, hour, rfl, MonoR.up (R := HouseAt K c) e hat, hh, rfl⟩) fun H1 e1 => ?_
  have g1 := g.ext e1
  have hc1 := hc.keep (.refl g.bh.l) fun d u cd => cd.ext e1
  have hat1 := hc1.at_ g1.bh
  obtain ⟨ha, hdx, hfs, e0, hha, pv, hvv, wd, rfl, ⟨kvs, hfz, dm⟩, hhe, hwd⟩ := id hat1
  cases e0
  refine q_unlessH g1 (evt_val (evv_cast (evv_dnotinR (k := .inr name) (evp_fld (P := RdD kvs) (evv_var (i := 0) rfl) hha T.c_House T.n_House_plans rfl hfz.rd) (evv_var (i := 2) rfl)) (by rw [first_some dm hn]; rfl))) fun H2 e2 _ => ?_
  have g2 := g1.ext e2
  have hc2 := hc1.keep (.refl g1.bh.l) fun d u cd => cd.ext e2
  have n1 := hc2.xl
  have n2 := hc2.xw
  have n3 := hc2.lw
  obtain ⟨⟨dx3, pv3, o3, f3⟩, ⟨ys, l3, i3⟩, w3⟩ := id hc2
  refine ⟨_, rfl, _, rfl, a.x, _, _, _, _, rfl, o3.at_, T.c_House, T.n_House_wanted, rfl, _, rfl, a.w, _, rfl, DPut.k (k := .inl hour) w3.at_ (Nat.lt_of_le_of_lt (show (wantedK h.wanted).length ≤ 1000 by unfold wantedK; rw [List.length_map]; exact hl) (by decide)), ?_⟩
  rw [putW_put]
  refine k _ (g2.mut w3) ⟨⟨dx3, pv3, o3.other n2, f3⟩, ⟨ys, l3.other n3, i3⟩, w3.set⟩ fun d u q1 q2 q3 cd => ((cd.ext e1).ext e2).other q3
abbrev s_House_run : Stmt := inClass (top 25) 5
theorem sc_House_run : FnScope ["self", "hour"] ["self", "hour"] (defScope s_House_run) := ⟨rfl, rfl, rfl, by decide +kernel, rfl, by decide +kernel, by decide +kernel⟩
/- slots: 0=self 1=hour -/
theorem ok_House_run (F : Fun K "run" "House.run" s_House_run f fd) (T : Txt K mg c) (G_House_need_hour : Gm P w K mg base 1 c.House "need_hour" ["self", "hour"] [] (Pure (R_needHour K c))) : FnOk P w K mg base CX0 2 f fd ["self", "hour"] (spRun K c) := by
  refine sp_ok F sc_House_run (fun vs H Q E ⟨B0, H0, B, a, h, hour, e, _⟩ => by rw [e]; rfl) fun cdv A outer s0 Hh E hr => ?_
  refine ⟨_, (pss_cons (ps_expr (pe_gm (pv 0) T.c_House G_House_need_hour (hr.mono (by decide)) (pa_cons (pv 1) pa_nil)))
        (pss_one (ps_fld (pv 0) (pv 1) rfl))), fun vs H Q E' ⟨B0, H0, B, a, h, hour, hv, g, hc, hh, k⟩ => ?_⟩
  subst hv
  have hat := hc.at_ g.bh
  refine q_dropH g.bh.r (ev_houseM (us := [.int hour]) (Pv := Is .non) (evv_var (i := 0) rfl) hat rfl (evas_cons (evv_var (i := 1) rfl) eva_nil) fun B' e => ⟨_, h, hour, rfl, MonoR.up (R := HouseAt K c) e hat, hh, rfl⟩) fun H1 e1 => ?_
  have g1 := g.ext e1
  have hc1 := hc.keep (.refl g.bh.l) fun d u cd => cd.ext e1
  have n1 := hc1.xl
  have n2 := hc1.xw
  obtain ⟨⟨dx3, pv3, o3, f3⟩, ⟨ys, l3, i3⟩, w3⟩ := id hc1
  refine ⟨_, rfl, _, rfl, a.x, _, _, _, rfl, o3.at_, T.c_House, T.n_House_hour, by show 5 < 1000; decide, ?_⟩
  exact k _ (g1.mut o3) ⟨⟨dx3, pv3, o3.set, f3⟩, ⟨ys, l3.other n1.symm, i3⟩, w3.other n2.symm⟩ fun d u q1 q2 q3 cd => (cd.ext e1).other q1
end
end K7

set_option Elab.async false
set_option linter.all false
set_option maxRecDepth 100000
set_option maxHeartbeats 2000000
namespace Pw
open PySem PySem.Spec PySem.W L2
open PyProof.Rows hiding St
open Evl (sq_of st_of)
variable [Tbs]
section
variable {K : PySem.W.Frag} {ta tb te : TE} {σ : L2.St} {B B0 H0 H : Hp} {p : Addr} {xs : List V} {n : Nat} {v : V} {i j : Int} {D : Ends} {tz : TS} {P : Hp → V → Prop}
/-- xs[n], a list that stands | a tuple -/
theorem evp_ixL [Mono P] (ha : EvV ta σ B (.ref p)) (hp : B p = some (.lst xs)) (hb : EvV tb σ B (.int (n : Int))) (hv : xs[n]? = some v) (q : P B v) : EvP (tOp (rIxL K) ta tb) σ B P :=
  evv_op ha hb fun B' e => evr_now (v := v) (fun H bh Q q => ⟨p, xs, (n : Int), v, rfl, rfl, sq_of (bh _ _ (e _ _ hp)), by
    unfold atI
    rw [Evl.ixN_nat (List.getElem?_eq_some_iff.mp hv).1]
    exact hv, q⟩) (Mono.up e q)
theorem evv_ixL (ha : EvV ta σ B (.ref p)) (hp : B p = some (.lst xs)) (hb : EvV tb σ B (.int (n : Int))) (hv : xs[n]? = some v) : EvV (tOp (rIxL K) ta tb) σ B v := evp_ixL ha hp hb hv rfl
/-- p[n] = e, p a list of mine, read of all that stands -/
theorem q_setL {m : Int} {i : Nat} {s : Nat} (g : Grow B0 H0 B H) (cl : Cell H0 B H p (.lst xs)) (hs : σ[s]? = some (some (.ref p))) (h : EvV te σ H v) (hn : ixN xs.length m = some i) (k : ∀ H', Grow B0 H0 B H' → Cell H0 B H' p (.lst (xs.set i v)) → tz D σ H') : tSeq (tAsg te (gSub (tVar s) (tC (.int m)) rSetL)) tz D σ H :=
  h H (.refl g.bh.r) _ fun w B1 H1 g1 e => by
    cases e
    have c1 := cl.ext g1.h
    exact ⟨.ref p, hs, p, xs, m, i, rfl, rfl, c1.at_, hn, k _ ((g.ext g1.h).mut c1) c1.set⟩
theorem evv_add (ha : EvV ta σ B (.int i)) (hb : EvV tb σ B (.int j)) : EvV (tOp (rI0 fun i j => .int (i + j)) ta tb) σ B (.int (i + j)) := evv_op ha hb fun B' e => evr_now (fun H bh Q q => ⟨i, j, rfl, rfl, q⟩) rfl
theorem evv_mod (ha : EvV ta σ B (.int i)) (hb : EvV tb σ B (.int j)) (hj : 0 < j) : EvV (tOp (rI (fun _ j => 0 < j) fun i j => .int (i % j)) ta tb) σ B (.int (i % j)) := evv_op ha hb fun B' e => evr_now (fun H bh Q q => ⟨i, j, rfl, rfl, hj, q⟩) rfl
theorem evv_fdiv (ha : EvV ta σ B (.int i)) (hb : EvV tb σ B (.int j)) (h0 : 0 < j) (h1 : j < 1073741824) : EvV (tOp (rI CDiv fun i j => .int (i / j)) ta tb) σ B (.int (i / j)) := evv_op ha hb fun B' e => evr_now (fun H bh Q q => ⟨i, j, rfl, rfl, ⟨h0, h1⟩, q⟩) rfl
theorem evv_mul (ha : EvV ta σ B (.int i)) (hb : EvV tb σ B (.int j)) (h : CMul i j) : EvV (tOp (rI CMul fun i j => .int (i * j)) ta tb) σ B (.int (i * j)) := evv_op ha hb fun B' e => evr_now (fun H bh Q q => ⟨i, j, rfl, rfl, h, q⟩) rfl
theorem evv_pow (ha : EvV ta σ B (.int i)) (hb : EvV tb σ B (.int j)) (h : CPow i j) : EvV (tOp (rI CPow fun i j => .int (i ^ j.toNat)) ta tb) σ B (.int (i ^ j.toNat)) := evv_op ha hb fun B' e => evr_now (fun H bh Q q => ⟨i, j, rfl, rfl, h, q⟩) rfl
theorem evv_abs (ha : EvV ta σ B (.int i)) : EvV (tCB (fun xs H Q => ∃ i, xs = [.int i] ∧ Q (.int (if i < 0 then -i else i)) H) (tCons ta tNil)) σ B (.int (if i < 0 then -i else i)) :=
  evp_cbs (evas_cons ha eva_nil) fun B' e => evr_now (fun H bh Q q => ⟨i, rfl, q⟩) rfl
/-- if t: x = e, where x stands already -/
theorem q_ifSet {tt : TT} {i : Nat} {v0 : V} {b : Bool} {Pv : V → Prop} (t : Tb H) (h : EvT tt σ H b) (hi : σ.set i (some v0) = σ) (h1 : b = true → EvP te σ H (fun _ v => Pv v)) (p0 : b = false → Pv v0) (k : ∀ v H1, Ex H H1 → Pv v → tz D (σ.set i (some v)) H1) : tSeq (tIfS tt (tAsg te (gName i)) tNext) tz D σ H :=
  h H (.refl t) _ fun B1 H1 g1 => by
    cases b with
    | true =>
      haveI : Mono (fun (_ : Hp) (v : V) => Pv v) := ⟨fun _ h => h⟩
      exact iteT ((h1 rfl).mono g1.b H1 g1.bh _ fun v B2 H2 g2 p => k v H2 (g1.h.trans g2.h) p)
    | false =>
      refine iteF ?_
      have := k v0 H1 g1.h (p0 rfl)
      rw [hi] at this
      exact this
theorem shaped_ints (ns : List Int) : SeqAt.shaped (.list (ns.map PyData.int)) = true := by
  have h1 : PyData.canLayAll0 (ns.map PyData.int) = true ∧ PyData.depthAll (ns.map PyData.int) ≤ 1 := by
    induction ns with
    | nil => exact ⟨rfl, by simp [PyData.depthAll]⟩
    | cons a r ih =>
      refine ⟨?_, ?_⟩
      · rw [List.map_cons]
        show (PyData.canLay0 (.int a) && PyData.canLayAll0 (r.map PyData.int)) = true
        rw [ih.1]
        rfl
      · rw [List.map_cons]
        simp only [PyData.depthAll, PyData.depth]
        have := ih.2
        omega
  unfold SeqAt.shaped
  rw [Bool.and_eq_true]
  refine ⟨?_, decide_eq_true ?_⟩
  · show PyData.canLayAll0 (ns.map PyData.int) = true
    exact h1.1
  · have := h1.2
    simp only [PyData.depth]
    omega
theorem dp_ints {B : Hp} {a : Addr} {ns : List Int} (h : B a = some (.lst (ns.map V.int))) : Dp K B (.ref a) (.list (ns.map PyData.int)) := by
  refine .lst (sq_of h) ?_
  clear h
  induction ns with
  | nil => exact .nil
  | cons a r ih => exact .cons (.int a) ih
end
instance : Mono DeckAt := ⟨fun e h => h.up e⟩
section
variable {P : Program} {w : World} {K : PySem.W.Frag} {mg : Str → Option Value} {base : Heap} {k : Nat} {f : Addr} {fd : FuncData} {ps : List Str} {sp sp' : Sp}
/-- what a def gives back becomes a deck -/
theorem fn_mkDeck (F : FnOk P w K mg base CX0 k f fd ps sp) (len : ∀ vs H Q E, sp' vs H Q E → vs.length = ps.length)
    (h : ∀ vs H Q E, sp' vs H Q E → sp vs H (fun v H' => ∃ (d l : Addr) (a r : Int), v = .ref d ∧ 0 ≤ a ∧ 0 ≤ r ∧ H' d = some (.lst (deckL l a r)) ∧ Q v (upd H' d (DeckO d l))) E) : FnOk P w K mg base CX0 k f fd ps sp' := by
  refine ⟨len, fun A outer s H args us vs Q E hr he hb hv hs => ?_⟩
  refine codeAny_mono (F.run A outer s _ args us vs _ E hr he hb hv (h vs H Q E hs)) fun res s' hq => ?_
  cases res with
  | error e => exact False.elim hq
  | ok fl =>
    cases fl with
    | next => exact False.elim hq
    | brk => exact False.elim hq
    | cont => exact False.elim hq
    | ret u =>
      obtain ⟨v, H', os, bare, un, hok, rv, d, l, a, r, ev, ha, hr2, hd', q⟩ := hq
      refine ⟨v, upd H' d (DeckO d l), os, bare, ?_, deck_in hok ha hr2 hd', rv, q⟩
      refine ⟨un.keep, un.slot, fun b o q n x => ?_, un.there, fun b xs q => ?_, fun b o u q => ?_, fun b ps q => ?_⟩
      · have z := un.free b o q n x
        rw [upd_ne (fun e => by rw [e, hd'] at z; cases z)]
        exact z
      · have z := un.tups b xs q
        rw [upd_ne (fun e => by rw [e, hd'] at z; cases z)]
        exact z
      · have z := un.frzs b o u q
        rw [upd_ne (fun e => by rw [e, hd'] at z; cases z)]
        exact z
      · obtain ⟨more, z⟩ := un.tbls b ps q
        exact ⟨more, by rw [upd_ne (fun e => by rw [e, hd'] at z; cases z)]; exact z⟩
theorem Grow.deck {B0 H0 B H : Hp} {d l : Addr} {o : HO} (g : Grow B0 H0 B H) (c : Cell H0 B H d o) : Grow B0 H0 (upd B d (DeckO d l)) (upd H d (DeckO d l)) := by
  have t1 : Tb (upd B d (DeckO d l)) := g.b.r.new c.nb
  have t2 : Tb (upd H d (DeckO d l)) := g.bh.r.set c.at_ c.po
  refine ⟨g.b.trans (Ex.new g.b.r c.nb), ⟨fun b o z n => ?_, fun b ps z => ?_, t1, t2⟩, ⟨fun b o z n => ?_, fun b ps z => ?_, g.h.l, t2⟩, fun b o z => ?_⟩
  · by_cases e : b = d
    · subst e; rw [upd_same] at z ⊢; exact z
    · rw [upd_ne e] at z ⊢; exact g.bh.at_ b o z n
  · by_cases e : b = d
    · subst e; rw [upd_same] at z; exact absurd (Option.some.inj z) (deckO_nt ps)
    · rw [upd_ne e] at z ⊢; exact g.bh.tab b ps z
  · have e : b ≠ d := fun e => by rw [e, c.n0] at z; cases z
    rw [upd_ne e]; exact g.h.at_ b o z n
  · have e : b ≠ d := fun e => by rw [e, c.n0] at z; cases z
    rw [upd_ne e]; exact g.h.tab b ps z
  · by_cases e : b = d
    · subst e; exact .inr c.n0
    · rw [upd_ne e] at z; exact g.new b o z
end
end Pw

set_option Elab.async false
set_option linter.all false
set_option maxRecDepth 100000
set_option maxHeartbeats 8000000
namespace K7
open PySem PySem.Spec PySem.W L2 Pw
open PyProof.Rows hiding St
open Evl (sq_of st_of)
variable [Tbs]
/-! ### the law's draws: any number below the told one -/
section
variable {P : Program} {w : World} {K : PySem.W.Frag} {mg : Str → Option Value} {base : Heap} {c : Cs} {f : Addr} {fd : FuncData}
abbrev s__law_of : Stmt := top 43
theorem sc__law_of : FnScope ["deck", "many", "found", "at", "cell", "mixed"] ["deck", "many"] (defScope s__law_of) := ⟨rfl, rfl, rfl, by decide +kernel, rfl, by decide +kernel, by decide +kernel⟩
/- slots: 0=deck 1=many 2=found 3=at 4=cell 5=mixed -/
theorem ok_law_ofS (F : Fun K "_law_of" "_law_of" s__law_of f fd) (T : Txt K mg c) : FnOk P w K mg base CX0 1 f fd ["deck", "many"] spLawOf := by
  refine sp_ok F sc__law_of (fun vs H Q E ⟨B, d, l, a, r, many, cells, h, _⟩ => by rw [h]; rfl) fun cdv A outer s0 Hh E hr => ?_
  have hu := hu_of hr
  refine ⟨_, (pss_cons (ps_if (pt_cmpR op_gt (pe_ix ix_list (pv 0) pe_int (fun _ _ => rfl)) pe_int (nomark _)) (pss_cons (ps_set (i := 2) sc__law_of.nd rfl (by first | exact Or.inl rfl | exact Or.inr rfl) (pe_op op_mod (pe_ix ix_list (pv 0) pe_int (fun _ _ => rfl)) (pv 1)))
        (pss_cons (ps_asg (pe_op op_fdiv (pe_ix ix_list (pv 0) pe_int (fun _ _ => rfl)) (pv 1)) (pg_sub (pv 0) pe_int set_list))
        (pss_one (ps_ret (pv 2))))) pss_nil)
        (pss_cons (ps_set (i := 3) sc__law_of.nd rfl (by first | exact Or.inl rfl | exact Or.inr rfl) (pe_ix ix_list (pv 0) pe_int (fun _ _ => rfl)))
        (pss_cons (ps_asg (pe_op op_add (pv 3) pe_int) (pg_sub (pv 0) pe_int set_list))
        (pss_cons (ps_set (i := 4) sc__law_of.nd rfl (by first | exact Or.inl rfl | exact Or.inr rfl) (pe_op op_add (pe_op op_mul pe_int (pv 3)) pe_int))
        (pss_cons (ps_if (pt_cmpR (op_neD hr.units) (pe_ix ix_list (pv 0) pe_int (fun _ _ => rfl)) (pe_lst pa_nil) (nomark _)) (pss_one (ps_set (i := 4) sc__law_of.nd rfl (by first | exact Or.inl rfl | exact Or.inr rfl) (pe_ix ix_list (pe_ix ix_list (pv 0) pe_int (fun _ _ => rfl)) (pe_op op_mod (pv 3) (pe_callB (call_len) (by rfl) T.b_len (by decide +kernel) (pa_cons (pe_ix ix_list (pv 0) pe_int (fun _ _ => rfl)) pa_nil))) (fun _ _ => rfl)))) pss_nil)
        (pss_cons (ps_if (PW.pt (pw_and (pt_cmpR op_lt (pv 3) (pe_callB (call_len) (by rfl) T.b_len (by decide +kernel) (pa_cons (pe_ix ix_list (pv 0) pe_int (fun _ _ => rfl)) pa_nil)) (nomark _)) (pw_and1 (pt_cmpR op_ge (pe_callB (call_abs) (by rfl) T.b_abs (by decide +kernel) (pa_cons (pv 4) pa_nil)) (pe_op op_pow pe_int pe_int) (nomark _))))) (pss_cons (ps_asg (pe_op op_fdiv (pe_callB (call_abs) (by rfl) T.b_abs (by decide +kernel) (pa_cons (pv 4) pa_nil)) (pv 1)) (pg_sub (pv 0) pe_int set_list))
        (pss_one (ps_ret (pe_op op_mod (pe_callB (call_abs) (by rfl) T.b_abs (by decide +kernel) (pa_cons (pv 4) pa_nil)) (pv 1))))) pss_nil)
        (pss_cons (ps_set (i := 5) sc__law_of.nd rfl (by first | exact Or.inl rfl | exact Or.inr rfl) (pe_op op_mod (pe_op op_mul (pe_op op_add (pe_op op_add (pe_op op_mod (pv 4) pe_int) (pe_op op_mul pe_int (pv 3))) pe_int) pe_int) pe_int))
        (pss_cons (ps_set (i := 5) sc__law_of.nd rfl (by first | exact Or.inl rfl | exact Or.inr rfl) (pe_op op_mod (pe_op op_add (pe_op op_add (pe_op op_mul (pv 5) (pv 5)) (pe_op op_mul pe_int (pv 3))) pe_int) pe_int))
        (pss_one (ps_ret (pe_op op_mod (pe_op op_fdiv (pe_op op_mod (pe_op op_mul (pv 5) (pe_op op_add (pe_op op_mod (pv 5) pe_int) pe_int)) pe_int) pe_int) (pv 1)))))))))))), fun vs H Q E' ⟨B, d, l, a, r, many, cells, hv, g, cd, hl, hcl, ha, hr0, h1, h2, k⟩ => ?_⟩
  subst hv
  have rd : ∀ {H' : Hp} {σ : L2.St} {a r : Int} (n : Nat) (v : V), H' d = some (.lst (deckL l a r)) → σ[0]? = some (some (.ref d)) → (deckL l a r)[n]? = some v → EvV (tOp (rIxL K) (tVar 0) (tC (.int (n : Nat)))) σ H' v := fun n v hd hs hn => evv_ixL (evv_var hs) hd evv_c hn
  have hlH : ∀ {H' : Hp}, Ex H H' → H' l = some (.lst (cells.map V.int)) := fun e => e _ _ (g.bh _ _ hl)
  have mod_ok : ∀ z : Int, 0 ≤ z % many ∧ z % many < many := fun z => ⟨Int.emod_nonneg z (by omega), Int.emod_lt_of_pos z (by omega)⟩
  -- if deck[2] > 0
  refine q_ifH (b := decide (r > 0)) g.bh.r (evt_test (evv_I0 (rd 2 (.int r) cd.at_ rfl rfl) evv_c)) (fun hb H1 e1 => ?_) fun hb H1 e1 => ?_
  · have c1 := cd.ext e1
    have g1 := g.ext e1
    have r0 : 0 < r := of_decide_eq_true hb
    refine q_asgH (v := .int (r % many)) g1 (evv_mod (rd 2 (.int r) c1.at_ rfl rfl) (evv_var (i := 1) rfl) (by omega)) fun H2 e2 g2 => ?_
    have c2 := c1.ext e2
    refine q_setL (m := 2) (i := 2) (s := 0) (v := .int (r / many)) g2 c2 rfl (evv_fdiv (rd 2 (.int r) c2.at_ rfl rfl) (evv_var (i := 1) rfl) (by omega) (by omega)) rfl fun H3 g3 c3 => ?_
    exact ⟨_, rfl, k (r % many) a (r / many) B H3 (mod_ok r).1 (mod_ok r).2 ha (Int.ediv_nonneg hr0 (by omega)) g3 c3⟩
  -- at, deck[1]
  have c1 := cd.ext e1
  have g1 := g.ext e1
  refine q_asgH (v := .int a) g1 (rd 1 (.int a) c1.at_ rfl rfl) fun H2 e2 g2 => ?_
  have c2 := c1.ext e2
  refine q_setL (m := 1) (i := 1) (s := 0) (v := .int (a + 1)) g2 c2 rfl (evv_I0 (evv_var (i := 3) rfl) evv_c) rfl fun H3 g3 c3 => ?_
  have c3 : Cell (delA H d) B H3 d (.lst (deckL l (a + 1) r)) := c3
  have hl3 : H3 l = some (.lst (cells.map V.int)) := g3.bh _ _ hl
  -- cell
  refine q_asgH (v := .int (41 * a + 13)) g3 (evv_I0 (evv_mul evv_c (evv_var (i := 3) rfl) (.inl (by decide))) evv_c) fun H4 e4 g4 => ?_
  have c4 := c3.ext e4
  have hl4 := e4 _ _ hl3
  have rd4 : ∀ {H' : Hp} {σ : L2.St}, H' d = some (.lst (deckL l (a + 1) r)) → σ[0]? = some (some (.ref d)) → EvV (tOp (rIxL K) (tVar 0) (tC (.int 0))) σ H' (.ref l) := fun hd hs => rd 0 (.ref l) hd hs rfl
  have lenE : ∀ {H' : Hp} {σ : L2.St}, H' d = some (.lst (deckL l (a + 1) r)) → H' l = some (.lst (cells.map V.int)) → σ[0]? = some (some (.ref d)) → EvV (tCB (fun xs H Q => ∃ x n, xs = [x] ∧ LenV K x H n ∧ Q (.int n) H) (tCons (tOp (rIxL K) (tVar 0) (tC (.int 0))) tNil)) σ H' (.int (cells.length : Nat)) := fun hd hl' hs =>
    evv_cast (evv_len (Pa := Is (.ref l)) (rd4 hd hs) fun B' v e hv H' x => by cases hv; exact lenV_lst (sq_of (x _ _ (e _ _ hl')))) (by rw [List.length_map])
  refine q_ifSet (σ := [some (.ref d), some (.int many), none, some (.int a), some (.int (41 * a + 13)), none]) (b := !PyData.eqv (.list (cells.map PyData.int)) (.list (([] : List Int).map PyData.int))) (v0 := .int (41 * a + 13)) (Pv := fun v => ∃ z : Int, v = .int z) g4.bh.r (evt_test (evd_ne (EvP.imp (rd4 c4.at_ rfl) fun B' v e hv => by cases hv; exact dp_ints (e _ _ hl4)) (EvP.imp (evp_lstV (K := K) (fe := V.int) (as := []) eva_nil (by simp)) fun B' v e h => ls_data h) (Pw.shaped_ints _) (Pw.shaped_ints []))) rfl (fun hb => ?_) (fun _ => ⟨_, rfl⟩) fun v H5 e5 ⟨z, hz⟩ => ?_
  · have ne : cells ≠ [] := fun z => by rw [z] at hb; exact absurd hb (by decide)
    have lp : 0 < cells.length := List.length_pos_iff.mpr ne
    have m0 := Int.emod_nonneg a (b := (cells.length : Int)) (by omega)
    have m1 := Int.emod_lt_of_pos a (b := (cells.length : Int)) (by omega)
    obtain ⟨n, hn⟩ := Int.eq_ofNat_of_zero_le m0
    have nl : n < cells.length := by omega
    refine EvP.imp (evv_ixL (n := n) (rd4 c4.at_ rfl) hl4 (evv_cast (evv_mod (evv_var (i := 3) rfl) (lenE c4.at_ hl4 rfl) (by omega)) (by rw [hn])) (v := .int cells[n]) (by rw [List.getElem?_map, List.getElem?_eq_getElem nl]; rfl)) fun B' v e hv => ?_
    cases hv
    exact ⟨_, rfl⟩
  subst hz
  have c5 := c4.ext e5
  have g5 := g4.ext e5
  have hl5 := e5 _ _ hl4
  refine q_ifH (σ := [some (.ref d), some (.int many), none, some (.int a), some (.int z), none]) (b := decide (a < (cells.length : Int)) && decide ((if z < 0 then -z else z) ≥ 10 ^ (18 : Int).toNat)) g5.bh.r (evt_and (evt_test (evv_I0 (evv_var (i := 3) rfl) (lenE c5.at_ hl5 rfl))) fun _ => evt_test (evv_I0 (evv_abs (evv_var (i := 4) rfl)) (evv_pow evv_c evv_c ⟨by decide, by decide, by decide⟩))) (fun _ H6 e6 => ?_) fun _ H6 e6 => ?_
  · have c6 := c5.ext e6
    have g6 := g5.ext e6
    have zn : 0 ≤ (if z < 0 then -z else z) := by split <;> omega
    refine q_setL (m := 2) (i := 2) (s := 0) (v := .int ((if z < 0 then -z else z) / many)) g6 c6 rfl (evv_fdiv (evv_abs (evv_var (i := 4) rfl)) (evv_var (i := 1) rfl) (by omega) (by omega)) rfl fun H7 g7 c7 => ?_
    exact evv_mod (evv_abs (evv_var (i := 4) rfl)) (evv_var (i := 1) rfl) (by omega) H7 (.refl g7.bh.r) _ fun v B8 H8 g8 hv => by
      cases hv
      exact k _ (a + 1) _ B H8 (mod_ok _).1 (mod_ok _).2 (by omega) (Int.ediv_nonneg zn (by omega)) (g7.ext g8.h) (c7.ext g8.h)
  have c6 := c5.ext e6
  have g6 := g5.ext e6
  refine q_asgH (σ := [some (.ref d), some (.int many), none, some (.int a), some (.int z), none]) (v := .int ((z % 2147483549 + 60013 * a + 11) * 48271 % 2147483629)) g6 (evv_mod (evv_mul (evv_add (evv_add (evv_mod (evv_var (i := 4) rfl) evv_c (by decide)) (evv_mul evv_c (evv_var (i := 3) rfl) (.inl (by decide)))) evv_c) evv_c (.inr (by decide))) evv_c (by decide)) fun H7 e7 g7 => ?_
  have m1 : ∀ y : Int, 0 ≤ y % 2147483629 ∧ y % 2147483629 < 2147483629 := fun y => ⟨Int.emod_nonneg _ (by decide), Int.emod_lt_of_pos _ (by decide)⟩
  generalize hx : (z % 2147483549 + 60013 * a + 11) * 48271 % 2147483629 = x at *
  have x0 := m1 ((z % 2147483549 + 60013 * a + 11) * 48271)
  rw [hx] at x0
  refine q_asgH (σ := [some (.ref d), some (.int many), none, some (.int a), some (.int z), some (.int x)]) (v := .int ((x * x + 40014 * a + 29) % 2147483587)) g7 (evv_mod (evv_add (evv_add (evv_mul (evv_var (i := 5) rfl) (evv_var (i := 5) rfl) (.inl (by omega))) (evv_mul evv_c (evv_var (i := 3) rfl) (.inl (by decide)))) evv_c) evv_c (by decide)) fun H8 e8 g8 => ?_
  have m2 : ∀ y : Int, 0 ≤ y % 2147483587 ∧ y % 2147483587 < 2147483587 := fun y => ⟨Int.emod_nonneg _ (by decide), Int.emod_lt_of_pos _ (by decide)⟩
  generalize hy : (x * x + 40014 * a + 29) % 2147483587 = y at *
  have y0 := m2 (x * x + 40014 * a + 29)
  rw [hy] at y0
  refine (evv_mod (σ := [some (.ref d), some (.int many), none, some (.int a), some (.int z), some (.int y)]) (evv_fdiv (evv_mod (evv_mul (evv_var (i := 5) rfl) (evv_add (evv_mod (evv_var (i := 5) rfl) evv_c (by decide)) evv_c) (.inl (by omega))) evv_c (by decide)) evv_c (by decide) (by decide)) (evv_var (i := 1) rfl) (by omega)) H8 (.refl g8.bh.r) _ fun v B9 H9 g9 hv => ?_
  cases hv
  exact k _ (a + 1) r B H9 (mod_ok _).1 (mod_ok _).2 (by omega) hr0 (g8.ext g9.h) (((c6.ext e7).ext e8).ext g9.h)
/-- told of the deck as a thing that stands -/
theorem ok_law_of (F : Fun K "_law_of" "_law_of" s__law_of f fd) (T : Txt K mg c) : FnOk P w K mg base CX0 1 f fd ["deck", "many"] (Pure R_lawOf) := deck_pure (ok_law_ofS F T)
def R_lawDeck (K : PySem.W.Frag) : Hp → List V → (Hp → V → Prop) → Prop := fun B vs P => ∃ (a : Addr) (ns : List Int), vs = [.ref a] ∧ SqL K B a (ns.map V.int) ∧ ns.length ≤ 63 ∧ P = DeckAt
def spLawDeck (K : PySem.W.Frag) : Sp := fun vs H Q _ => ∃ (B : Hp) (a : Addr) (ns : List Int), vs = [.ref a] ∧ Ex B H ∧ SqL K B a (ns.map V.int) ∧ ns.length ≤ 63 ∧
  ∀ (d l : Addr) (cells : List Int) (B' H' : Hp), Grow B H B' H' → Cell H B' H' d (.lst (deckL l 0 0)) → B' l = some (.lst (cells.map V.int)) → cells.length ≤ 1000 → Q (.ref d) H'
abbrev s__law_deck : Stmt := top 42
theorem sc__law_deck : FnScope ["script"] ["script"] (defScope s__law_deck) := ⟨rfl, rfl, rfl, by decide +kernel, rfl, by decide +kernel, by decide +kernel⟩
/- slots: 0=script -/
theorem ok_law_deckS (F : Fun K "_law_deck" "_law_deck" s__law_deck f fd) (T : Txt K mg c) : FnOk P w K mg base CX0 1 f fd ["script"] (spLawDeck K) := by
  refine sp_ok F sc__law_deck (fun vs H Q E ⟨B, a, ns, h, _⟩ => by rw [h]; rfl) fun cdv A outer s0 Hh E hr => ?_
  refine ⟨_, (pss_one (ps_ret (pe_lst (pa_cons (pe_callTy (call_list_of) (by rfl) T.b_list (by decide +kernel) (pa_cons (pe_slice sl_list (pv 0) po_none (po_some pe_int)) pa_nil)) (pa_cons pe_int (pa_cons pe_int pa_nil)))))), fun vs H Q E' ⟨B, a, ns, hv, bh, hs, hn, k⟩ => ?_⟩
  subst hv
  have sl : EvP (tSl (rSlL K) (tVar 0) tNoPart (tPart (tC (.int 63)))) [some (.ref a)] B (IsL K (Iss ((ns.take 63).map V.int))) := fun H bh Q q => ⟨_, rfl, ((63 : Nat) : Int), rfl, a, _, rfl, ex_l bh hs, fun l hl => by
    rw [cut_to]
    exact q _ _ _ ((Grow.refl bh).laid hl) ⟨l, _, rfl, upd_same, by rw [List.map_take]⟩⟩
  refine (eva_cons (P := IsL K (Iss ((ns.take 63).map V.int))) (A := Iss [.int 0, .int 0]) (evp_listL sl) fun B' e => evas_cons evv_c (evas_cons evv_c eva_nil)) H bh (fun xs H1 => xs.length ≤ sizeLine ∧ ∀ p, H1 p = none → Q (.ref p) (upd H1 p (.lst xs))) fun vs B1 H1 g1 ⟨v1, r1, h1, ⟨l, xs, h2, h3, h4⟩, h5⟩ => ?_
  cases h5
  cases h4
  subst h2
  subst h1
  refine ⟨(by show 3 ≤ sizeLine; decide), fun d hd => ?_⟩
  exact k d l (ns.take 63) B1 _ (g1.cell hd) (Cell.mk' g1 hd) h3 (by rw [List.length_take]; omega)
theorem ok_law_deck (F : Fun K "_law_deck" "_law_deck" s__law_deck f fd) (T : Txt K mg c) : FnOk P w K mg base CX0 1 f fd ["script"] (Pure (R_lawDeck K)) :=
  fn_mkDeck (ok_law_deckS F T) (fun vs H Q E ⟨B, P', _, ⟨a, ns, h, _⟩, _⟩ => by rw [h]; rfl) fun vs H Q E ⟨B, P', bh, ⟨a, ns, h, hs, hn, hP⟩, q⟩ => by
    subst h hP
    refine ⟨B, a, ns, rfl, bh, hs, hn, fun d l cells B' H' g c hl hc => ⟨d, l, 0, 0, rfl, Int.le_refl _, Int.le_refl _, c.at_, q _ _ _ (g.deck c) ⟨d, l, cells, rfl, upd_same, ?_, hc⟩⟩⟩
    rw [upd_ne (fun e => by rw [e] at hl; rw [c.nb] at hl; cases hl)]
    exact hl
end
end K7

set_option Elab.async false
set_option linter.all false
set_option maxRecDepth 100000
set_option maxHeartbeats 2000000
namespace Pw
open PySem PySem.Spec PySem.W L2
open PyProof.Rows hiding St
open Evl (sq_of st_of)
variable [Tbs]
/-! ### 33. what the law's own text wants -/
section
variable {K : PySem.W.Frag} {ta tb te t0 : TE} {tr : TA} {σ : L2.St} {B B' B0 H0 H : Hp} {p : Addr} {xs : List V} {n : Nat} {v : V} {i j : Int} {D : Ends} {tz : TS} {P P0 Pa Pb : Hp → V → Prop} {z : Str} {lo hi : Option Int} {tl th : TO}
/-- what is told first may be any of such -/
theorem evp_first {F : V → TE} (e : ∀ σ H Q, t0 σ H (fun v H1 => F v σ H1 Q) → te σ H Q) (h : EvP t0 σ B P0) (k : ∀ v B', Ex B B' → P0 B' v → EvP (F v) σ B' P) : EvP te σ B P := fun H bh Q q => e _ _ _ (h H bh _ fun v B1 H1 g1 p => k v B1 g1.b p H1 g1.bh Q fun w B2 H2 g2 p2 => q w B2 H2 (g1.trans g2) p2)
def EvO (t : TO) (σ : L2.St) (B : Hp) (o : Option Int) : Prop := ∀ H, Ex B H → ∀ Q : Option Int → Hp → Prop, (∀ B' H', Grow B H B' H' → Q o H') → t σ H Q
theorem evo_none : EvO tNoPart σ B none := fun H bh Q q => q B H (.refl bh)
theorem evo_some (h : EvV te σ B (.int i)) : EvO (tPart te) σ B (some i) := fun H bh Q q => h H bh _ fun v B1 H1 g e => ⟨i, e, q B1 H1 g⟩
theorem evv_slS (h : EvV te σ B (.str z)) (hl : ∀ B', Ex B B' → EvO tl σ B' lo) (hh : ∀ B', Ex B B' → EvO th σ B' hi) (hz : z.length ≤ 100000) : EvV (tSl rSlS te tl th) σ B (.str (cutS z lo hi)) := fun H bh Q q => h H bh _ fun v B1 H1 g1 e => by
  cases e
  exact hl B1 g1.b H1 g1.bh _ fun B2 H2 g2 => hh B2 (g1.b.trans g2.b) H2 g2.bh _ fun B3 H3 g3 => ⟨z, rfl, Evl.sz_of hz, q _ B3 H3 ((g1.trans g2).trans g3) rfl⟩
theorem evv_ixNew (h : EvA tr σ B (Iss xs)) (hz : xs.length ≤ 100000) (hb : EvV tb σ B (.int (n : Int))) (hv : xs[n]? = some v) : EvV (tOp (rIxL K) (tLst tr) tb) σ B v :=
  evp_op (Pa := IsL K (Iss xs)) (evp_lst h fun B' vs e => by cases e; exact Evl.sz_of hz) (fun B' e => hb.mono e) fun x y B' e ⟨p, ys, h1, h2, h3⟩ h4 => by
    cases h3; cases h4; subst h1
    exact evr_now (v := v) (fun H bh Q q => ⟨p, xs, (n : Int), v, rfl, rfl, sq_of (bh _ _ h2), by
      unfold atI
      rw [Evl.ixN_nat (List.getElem?_eq_some_iff.mp hv).1]
      exact hv, q⟩) rfl
theorem evv_ixS {c : Nat} (ha : EvV ta σ B (.str z)) (hb : EvV tb σ B (.int (n : Int))) (hz : z.length ≤ 100000) (hv : z.cps.toList[n]? = some c) : EvV (tOp rIxS ta tb) σ B (.str ⟨#[c]⟩) :=
  evv_op ha hb fun B' e => evr_now (fun H bh Q q => ⟨z, (n : Int), c, rfl, rfl, Evl.sz_of hz, by
    unfold atI
    rw [Evl.ixN_nat (List.getElem?_eq_some_iff.mp hv).1]
    exact hv, q⟩) rfl
/-- x, y = e, [] -/
theorem q_parNL {i j : Nat} [Mono P] (g : Grow B0 H0 B H) (h : EvP te σ B P) (k : ∀ v p B' H', Ex B B' → (∀ d u, Cell H0 B H d u → Cell H0 B' H' d u) → H p = none → Grow B0 H0 B' H' → Cell H0 B' H' p (.lst []) → P B' v → tz D ((σ.set i (some v)).set j (some (.ref p))) H') : tSeq (tPar i j (tCons te (tCons (tLst tNil) tNil))) tz D σ H :=
  h H g.bh _ fun v B1 H1 g1 p => ⟨Nat.zero_le _, fun l hl => ⟨v, .ref l, rfl, k v l B1 _ g1.b (fun d u cd => (cd.grow g1).new hl) (ex_none g1.h hl) ((g.trans g1).cell hl) (Cell.mk' (g.trans g1) hl) p⟩⟩
/-- x, y, z = .. -/
theorem q_par3 {i j l : Nat} {Pc : Hp → V → Prop} (g : Grow B0 H0 B H) (h : EvA tr σ B (ConsP Pa (ConsP Pb (ConsP Pc (Iss []))))) (k : ∀ u v w B' H', Grow B0 H0 B' H' → Grow B H B' H' → Pa B' u → Pb B' v → Pc B' w → tz D (((σ.set i (some u)).set j (some v)).set l (some w)) H') : tSeq (tPar3 i j l tr) tz D σ H :=
  h H g.bh _ fun vs B1 H1 g1 ⟨u, _, e1, h1, ⟨v, _, e2, h2, ⟨w, _, e3, h3, e4⟩⟩⟩ => by
    cases e4
    subst e3
    subst e2
    exact ⟨u, v, w, e1, k u v w B1 H1 (g.trans g1) g1 h1 h2 h3⟩
theorem cps_app (x y : Str) : (x ++ y).cps.toList = x.cps.toList ++ y.cps.toList := by
  show (x.cps ++ y.cps).toList = _
  rw [Array.toList_append]
theorem join0 : ∀ ys : List Str, (PySem.Str.join "" ys).cps.toList = (ys.map fun y => y.cps.toList).flatten
  | [] => rfl
  | [p] => by
    show p.cps.toList = _
    simp
  | p :: q :: r => by
    show (p ++ "" ++ PySem.Str.join "" (q :: r)).cps.toList = _
    rw [cps_app, cps_app, join0 (q :: r)]
    show (p.cps.toList ++ []) ++ _ = _
    simp
theorem tl_join0 (ys : List Str) : (Txt.join "" ys).cps.toList = (ys.map fun y => y.cps.toList).flatten := by
  show (Builtin.Str.glued "" ys).cps.toList = _
  rw [StrLaws.glued_eq_join]
  exact join0 ys
end
end Pw

set_option Elab.async false
set_option linter.all false
set_option maxRecDepth 100000
set_option maxHeartbeats 8000000
namespace K7
open PySem PySem.Spec PySem.W L2 Pw
open PyProof.Rows hiding St
open Evl (sq_of st_of)
variable [Tbs]
/-! ### drawn names -/
theorem strl (z : Str) : z.length = z.cps.toList.length := Array.length_toList.symm
theorem letters_eq : letters.cps.toList = (List.range 26).map (97 + ·) := by decide +kernel
structure NamesOk (many : Int) (ns : List Str) : Prop where
  len : (ns.length : Int) = many
  nd : ns.Nodup
  ok : ∀ n ∈ ns, isName n = true
theorem isName_strOk {n : Str} (h : isName n = true) : PyData.strOk n = true ∧ n.length ≤ 12 := by
  unfold isName at h
  simp only [Bool.and_eq_true, decide_eq_true_eq, List.all_eq_true] at h
  obtain ⟨⟨h1, h2⟩, h3⟩ := h
  refine ⟨?_, by omega⟩
  unfold PyData.strOk
  rw [Array.all_eq_true']
  intro c hc
  have := h3 c (Array.mem_toList_iff.mpr hc)
  rw [letters_eq] at this
  obtain ⟨k, hk, rfl⟩ := List.mem_map.mp this
  have := List.mem_range.mp hk
  exact decide_eq_true (by omega)
structure WordOk (w : Str) : Prop where
  pos : 1 ≤ w.cps.toList.length
  len : w.cps.toList.length ≤ 12
  all : ∀ c ∈ w.cps.toList, c ∈ letters.cps.toList
def nmL (w : List Nat) (at_ c m : Nat) : List Nat := w.take at_ ++ [c] ++ (w.drop (at_ + 1)).take m
def nmOf (w : Str) (at_ c : Nat) (m : Nat) : Str := (cutS w none (some (at_ : Int)) ++ ⟨#[c]⟩) ++ cutS (cutS w (some ((at_ : Int) + 1)) none) none (some (m : Int))
theorem cut_none_to (w : Str) (n : Nat) : (cutS w none (some (n : Int))).cps.toList = w.cps.toList.take n := by
  unfold cutS
  rw [HT.sIx_none, HT.sIx_nat, List.drop_zero, Nat.sub_zero]
  show (w.cps.toList.take (min n w.cps.size)) = _
  rw [List.take_eq_take_iff, Array.length_toList]
  omega
theorem cut_from_none (w : Str) (n : Nat) : (cutS w (some (n : Int)) none).cps.toList = w.cps.toList.drop n := by
  unfold cutS
  rw [HT.sIx_none, HT.sIx_nat]
  show ((w.cps.toList.drop (min n w.cps.size)).take (w.cps.size - min n w.cps.size)) = _
  have l : w.cps.size = w.cps.toList.length := Array.length_toList.symm
  rw [l]
  by_cases h : n ≤ w.cps.toList.length
  · rw [Nat.min_eq_left h, List.take_of_length_le]
    rw [List.length_drop]
    exact Nat.le_refl _
  · rw [Nat.min_eq_right (by omega), List.drop_length, List.drop_of_length_le (by omega), List.take_nil]
theorem nmOf_l (w : Str) (at_ c m : Nat) : (nmOf w at_ c m).cps.toList = nmL w.cps.toList at_ c m := by
  unfold nmOf nmL
  rw [cps_app, cps_app, cut_none_to, cut_none_to, show ((at_ : Int) + 1) = ((at_ + 1 : Nat) : Int) by omega, cut_from_none]
theorem nmOf_name {w : Str} (W : WordOk w) {at_ c m : Nat} (ha : at_ < w.cps.toList.length) (hc : c ∈ letters.cps.toList) : isName (nmOf w at_ c m) = true := by
  have l : (nmOf w at_ c m).length = (nmL w.cps.toList at_ c m).length := by rw [← nmOf_l]; exact Array.length_toList.symm
  have hl : (nmL w.cps.toList at_ c m).length = at_ + 1 + min m (w.cps.toList.length - (at_ + 1)) := by
    unfold nmL
    rw [List.length_append, List.length_append, List.length_take, List.length_take, List.length_drop, Nat.min_eq_left (by omega)]
    rfl
  have := W.len
  unfold isName
  simp only [Bool.and_eq_true, decide_eq_true_eq, List.all_eq_true]
  refine ⟨⟨by omega, by omega⟩, fun x hx => ?_⟩
  rw [nmOf_l] at hx
  unfold nmL at hx
  rcases List.mem_append.mp hx with z | z
  · rcases List.mem_append.mp z with y | y
    · exact W.all _ (List.mem_of_mem_take y)
    · rw [List.mem_singleton.mp y]; exact hc
  · exact W.all _ (List.mem_of_mem_drop (List.mem_of_mem_take z))
theorem nmOf_at {w : Str} {at_ c m : Nat} (ha : at_ < w.cps.toList.length) : (nmOf w at_ c m).cps.toList[at_]? = some c := by
  rw [nmOf_l]
  unfold nmL
  have l : (w.cps.toList.take at_).length = at_ := by rw [List.length_take]; omega
  rw [List.append_assoc, List.getElem?_append_right (by omega), l, Nat.sub_self]
  rfl
def byL : List Int := [1, 3, 5, 7, 9, 11, 15, 17]
theorem by_apart {first b : Int} (hb : b ∈ byL) {j k : Int} (hj : 0 ≤ j ∧ j < 26) (hk : 0 ≤ k ∧ k < 26) (e : (first + b * j) % 26 = (first + b * k) % 26) : j = k := by
  simp only [byL, List.mem_cons, List.not_mem_nil, or_false] at hb
  rcases hb with h | h | h | h | h | h | h | h <;> subst h <;> omega
def letC (i : Int) : Nat := 97 + i.toNat
theorem letC_mem {i : Int} (h : 0 ≤ i ∧ i < 26) : letC i ∈ letters.cps.toList ∧ letters.cps.toList[i.toNat]? = some (letC i) := by
  rw [letters_eq]
  have : i.toNat < 26 := by omega
  refine ⟨List.mem_map.mpr ⟨i.toNat, List.mem_range.mpr this, rfl⟩, ?_⟩
  rw [List.getElem?_map, List.getElem?_range this]
  rfl
/-- the k-th of the names -/
def nmK (w : Str) (at_ : Nat) (first b cut : Int) (k : Nat) : Str := nmOf w at_ (letC ((first + b * k) % 26)) (if cut = 0 then 12 else k % 3)
theorem names_ok {w : Str} (W : WordOk w) {at_ : Nat} {first b cut many : Int} (ha : at_ < w.cps.toList.length) (hb : b ∈ byL) (h0 : 0 ≤ many) (h26 : many ≤ 26) : NamesOk many ((List.range many.toNat).map (nmK w at_ first b cut)) := by
  have md : ∀ k : Int, 0 ≤ (first + b * k) % 26 ∧ (first + b * k) % 26 < 26 := fun k => ⟨Int.emod_nonneg _ (by decide), Int.emod_lt_of_pos _ (by decide)⟩
  refine ⟨by rw [List.length_map, List.length_range]; omega, ?_, fun n hn => ?_⟩
  · rw [List.nodup_iff_pairwise_ne, List.pairwise_map]
    refine List.Pairwise.imp_of_mem ?_ List.nodup_range
    intro j k hj hk ne e
    have j1 := List.mem_range.mp hj
    have k1 := List.mem_range.mp hk
    have e1 := congrArg (fun n : Str => n.cps.toList[at_]?) e
    simp only [nmK] at e1
    rw [nmOf_at ha, nmOf_at ha] at e1
    have e2 := Option.some.inj e1
    unfold letC at e2
    have := by_apart (first := first) hb (j := (j : Int)) (k := (k : Int)) ⟨by omega, by omega⟩ ⟨by omega, by omega⟩ (by
      have := md j
      have := md k
      omega)
    omega
  · obtain ⟨k, hk, rfl⟩ := List.mem_map.mp hn
    exact nmOf_name W ha (letC_mem (md k)).1
def LetR : Rl Nat := fun _ v _ => ∃ c ∈ letters.cps.toList, v = .str ⟨#[c]⟩
instance : MonoR LetR := ⟨fun _ h => h⟩
def WordL (K : PySem.W.Frag) : Hp → V → Prop := fun B v => ∃ n : Nat, 1 ≤ n ∧ n ≤ 12 ∧ LsOf K LetR (List.range n) B v
instance {K : PySem.W.Frag} : Mono (WordL K) := ⟨fun e ⟨n, h1, h2, h3⟩ => ⟨n, h1, h2, Mono.up (P := LsOf K LetR _) e h3⟩⟩
theorem let_strs : ∀ {ns : List Nat} {xs : List V} {B : Hp}, Items LetR ns B xs → ∃ ys : List Str, xs = ys.map V.str ∧ ys.length = ns.length ∧ ∀ y ∈ ys, ∃ c ∈ letters.cps.toList, y = ⟨#[c]⟩
  | [], _, _, .nil => ⟨[], rfl, rfl, fun _ h => nomatch h⟩
  | _ :: _, _, _, .cons ⟨c, hc, e⟩ t => by
    obtain ⟨ys, h1, h2, h3⟩ := let_strs t
    subst e h1
    exact ⟨⟨#[c]⟩ :: ys, rfl, congrArg Nat.succ h2, fun y hy => by
      rcases List.mem_cons.mp hy with z | z
      · exact ⟨c, hc, z⟩
      · exact h3 y z⟩
theorem word_ok {ys : List Str} (h0 : 1 ≤ ys.length) (h1 : ys.length ≤ 12) (h : ∀ y ∈ ys, ∃ c ∈ letters.cps.toList, y = (⟨#[c]⟩ : Str)) : WordOk (Txt.join "" ys) ∧ (ys.map (·.length)).sum = ys.length := by
  have e := tl_join0 ys
  have l : ((ys.map fun y => y.cps.toList).flatten).length = ys.length ∧ (ys.map (·.length)).sum = ys.length ∧ ∀ c ∈ (ys.map fun y => y.cps.toList).flatten, c ∈ letters.cps.toList := by
    clear e h0 h1
    induction ys with
    | nil => exact ⟨rfl, rfl, fun _ h => nomatch h⟩
    | cons a r ih =>
      obtain ⟨i1, i2, i3⟩ := ih fun y hy => h y (List.mem_cons_of_mem _ hy)
      obtain ⟨c, hc, rfl⟩ := h a List.mem_cons_self
      refine ⟨?_, ?_, fun x hx => ?_⟩
      · rw [List.map_cons, List.flatten_cons, List.length_append, i1]; simp; omega
      · rw [List.map_cons, List.sum_cons, i2]
        show 1 + r.length = _
        rw [List.length_cons]; omega
      · rw [List.map_cons, List.flatten_cons] at hx
        rcases List.mem_append.mp hx with z | z
        · have : x = c := by simpa using z
          rw [this]; exact hc
        · exact i3 x z
  refine ⟨⟨?_, ?_, ?_⟩, l.2.1⟩
  · rw [e, l.1]; exact h0
  · rw [e, l.1]; exact h1
  · rw [e]; exact l.2.2
def R_lawCalled (K : PySem.W.Frag) : Hp → List V → (Hp → V → Prop) → Prop := fun B vs P => ∃ (u : V) (many : Int), vs = [u, .int many] ∧ DeckAt B u ∧ 1 ≤ many ∧ many ≤ 26 ∧ P = fun B' v => ∃ ns, NamesOk many ns ∧ LsOf K (VR V.str) ns B' v
section
variable {P : Program} {w : World} {K : PySem.W.Frag} {mg : Str → Option Value} {base : Heap} {c : Cs} {f : Addr} {fd : FuncData}
/-- a draw -/
theorem ev_draw {B B' : Hp} {σ : L2.St} {u : V} {m : Int} {te tm : TE} {E : XK} (hd : DeckAt B u) (e : Ex B B') (hs : EvV te σ B' u) (h1 : 1 ≤ m) (h2 : m < 1000000) (ht : EvV tm σ B' (.int m)) : EvP (tCall (Pure R_lawOf) [] E (tCons te (tCons tm tNil))) σ B' (Below m) :=
  evp_call (evas_cons hs (evas_cons ht eva_nil)) fun B2 vs e2 hvs => by
    cases hvs
    exact ⟨u, m, rfl, hd.up (e.trans e2), h1, h2, rfl⟩
abbrev s__law_called : Stmt := top 44
theorem sc__law_called : FnScope ["deck", "many", "letters", "k", "word", "at", "first", "cut", "by", "found", "tail"] ["deck", "many"] (defScope s__law_called) := ⟨rfl, rfl, rfl, by decide +kernel, rfl, by decide +kernel, by decide +kernel⟩
/- slots: 0=deck 1=many 2=letters 3=k 4=word 5=at 6=first 7=cut 8=by 9=found 10=tail -/
theorem ok_law_called (F : Fun K "_law_called" "_law_called" s__law_called f fd) (T : Txt K mg c) (G__law_of : Gf P w K mg base 1 "_law_of" ["deck", "many"] [] (Pure R_lawOf)) : FnOk P w K mg base CX0 2 f fd ["deck", "many"] (Pure (R_lawCalled K)) := by
  refine pure_ok F sc__law_called (fun B vs P' ⟨u, many, h, _⟩ => by rw [h]; rfl) fun cdv A outer s H0 E hr => ?_
  refine ⟨_, (pss_cons (ps_set (i := 2) sc__law_called.nd rfl (by first | exact Or.inl rfl | exact Or.inr rfl) pe_str)
        (pss_cons (ps_set (i := 4) sc__law_called.nd rfl (by first | exact Or.inl rfl | exact Or.inr rfl) (pe_bm PySem.F.plainAttrs_str PySem.F.slot_str_join PySem.F.type_str_join mt_join pe_str (pa_cons (pe_lc (own := [("k", 3)]) rfl sc__law_called.nd (pi_range1 (by rfl) T.b_range (pa_cons (pe_op op_add pe_int (pe_g G__law_of (hr.mono (by decide)) (by rfl) (pa_cons (pv 0) (pa_cons pe_int pa_nil)))) pa_nil)) (blkOk_by (N := ["deck", "many", "letters", "k", "word", "at", "first", "cut", "by", "found", "tail"]) (sc := defScope s__law_called) (by decide +kernel)) (fun _ _ _ _ _ => (pg_name (i := 3) sc__law_called.nd rfl (by first | exact Or.inl rfl | exact Or.inr rfl))) (fun _ _ _ _ _ => pts_nil) (fun _ _ _ _ _ => (pe_ix ix_str (pv 2) (pe_g G__law_of (hr.mono (by decide)) (by rfl) (pa_cons (pv 0) (pa_cons pe_int pa_nil))) (fun _ _ => rfl)))) pa_nil)))
        (pss_cons (ps_par3 (by rfl) sc__law_called.nd (i := 5) (j := 6) (l := 7) rfl rfl rfl (by decide) (by decide) (by decide) rfl rfl rfl (pa_cons (pe_g G__law_of (hr.mono (by decide)) (by rfl) (pa_cons (pv 0) (pa_cons (pe_callB (call_len) (by rfl) T.b_len (by decide +kernel) (pa_cons (pv 4) pa_nil)) pa_nil))) (pa_cons (pe_g G__law_of (hr.mono (by decide)) (by rfl) (pa_cons (pv 0) (pa_cons pe_int pa_nil))) (pa_cons (pe_g G__law_of (hr.mono (by decide)) (by rfl) (pa_cons (pv 0) (pa_cons pe_int pa_nil))) pa_nil))) (by rfl))
        (pss_cons (ps_par (by rfl) sc__law_called.nd (i := 8) (j := 9) rfl rfl (by decide) rfl rfl (pa_cons (pe_ix ix_list (pe_lst (pa_cons pe_int (pa_cons pe_int (pa_cons pe_int (pa_cons pe_int (pa_cons pe_int (pa_cons pe_int (pa_cons pe_int (pa_cons pe_int pa_nil))))))))) (pe_g G__law_of (hr.mono (by decide)) (by rfl) (pa_cons (pv 0) (pa_cons pe_int pa_nil))) (fun _ _ => rfl)) (pa_cons (pe_lst pa_nil) pa_nil)) (by rfl))
        (pss_cons (ps_for PassesOwn.never rfl (pi_range1 (by rfl) T.b_range (pa_cons (pv 1) pa_nil)) (pg_name (i := 3) sc__law_called.nd rfl (by first | exact Or.inl rfl | exact Or.inr rfl))
        (pss_cons (ps_set (i := 10) sc__law_called.nd rfl (by first | exact Or.inl rfl | exact Or.inr rfl) (pe_slice sl_str (pe_slice sl_str (pv 4) (po_some (pe_op op_add (pv 5) pe_int)) po_none) po_none (po_some (pe_ix ix_list (pe_lst (pa_cons pe_int (pa_cons (pe_op op_mod (pv 3) pe_int) pa_nil))) (pv 7) (fun _ _ => rfl)))))
        (pss_one (ps_expr (pe_bm PySem.F.plainAttrs_list PySem.F.slot_list_append PySem.F.type_list_append mt_append (pv 9) (pa_cons (pe_op op_add_str (pe_op op_add_str (pe_slice sl_str (pv 4) po_none (po_some (pv 5))) (pe_ix ix_str (pv 2) (pe_op op_mod (pe_op op_add (pv 6) (pe_op op_mul (pv 8) (pv 3))) pe_int) (fun _ _ => rfl))) (pv 10)) pa_nil))))))
        (pss_one (ps_ret (pv 9)))))))), fun B vs P' ⟨u, many, hv, hd, h1, h26, hP⟩ => ?_⟩
  subst hv hP
  refine fun H bh D r n => ?_
  refine q_asg (Grow.refl bh) (evv_c (v := .str letters)) fun w1 B1 H1 g1 g1' p1 => ?_
  cases p1
  -- word
  refine q_asg (σ := [some u, some (.int many), some (.str letters), none, none, none, none, none, none, none, none]) (Pv := fun _ v => ∃ wd : Str, v = .str wd ∧ WordOk wd) g1 (evp_bm (Pa := Is (.str "")) (A := ConsP (WordL K) (Iss [])) evv_c (fun B' x e hx H x' => by cases hx; rfl) (eva_cons (P := WordL K) ?_ fun B' e => eva_nil) fun B' x vs e hx ⟨v, r, hv, hw, hr0⟩ => ?_) fun wv B2 H2 g2 g2' ⟨wd, hwv, W⟩ => ?_
  · refine evp_first (P0 := fun _ v => ∃ m : Int, v = .int m ∧ 1 ≤ m ∧ m ≤ 12) (F := fun v => tLc (iRng1 (tCons (tC v) tNil)) (gName 3) tYes (tOp rIxS (tVar 2) (tCall (Pure R_lawOf) [] E0 (tCons (tVar 0) (tCons (tC (.int 26)) tNil)))) [3]) (fun _ _ _ h => h) (evp_op evv_c (fun B' e => ev_draw hd (g1'.b.trans e) (evv_var (i := 0) rfl) (m := 12) (by decide) (by decide) evv_c) fun x y B' e hx ⟨k, hk, k0, k1⟩ => by
      cases hx
      subst hk
      exact evr_now (v := .int (1 + k)) (fun H bh Q q => ⟨1, k, rfl, rfl, q⟩) ⟨1 + k, rfl, by omega, by omega⟩) fun v B' e ⟨m, hm, m1, m2⟩ => ?_
    subst hm
    refine EvP.imp (evp_lcA (K := K) (R := VR fun i : Nat => .int i) (S := LetR) (fun k : Nat => k) (evi_rng1 (n := m) (evas_cons evv_c eva_nil) ⟨by omega, by omega⟩) (by rw [List.length_range]; omega) fun B2 x k e2 hk hx => ⟨_, evg_name, rfl, ?_⟩) fun B2 v e2 h => ⟨m.toNat, by omega, by omega, by rw [List.map_id'] at h; exact h⟩
    refine evp_op (evv_var (i := 2) rfl) (fun B3 e3 => ev_draw hd (((g1'.b.trans e).trans e2).trans e3) (evv_var (i := 0) rfl) (m := 26) (by decide) (by decide) evv_c) fun x' y B3 e3 hx' ⟨q, hq, q0, q1⟩ => ?_
    cases hx'
    subst hq
    have hl := letC_mem ⟨q0, q1⟩
    exact evr_now (v := .str ⟨#[letC q]⟩) (fun H bh Q qq => ⟨letters, q, letC q, rfl, rfl, (by decide +kernel), by
      unfold atI
      have e9 : q = ((q.toNat : Nat) : Int) := by omega
      rw [e9, Evl.ixN_nat (List.getElem?_eq_some_iff.mp hl.2).1]
      exact hl.2, qq⟩) ⟨letC q, hl.1, rfl⟩
  · cases hx
    cases hr0
    subst hv
    obtain ⟨m, m1, m2, p, xs, rfl, sl, it⟩ := hw
    obtain ⟨ys, e1, e2, e3⟩ := let_strs it
    subst e1
    rw [List.length_range] at e2
    obtain ⟨W, sm⟩ := word_ok (by omega) (by omega) e3
    exact evr_now (v := .str (Txt.join "" ys)) (fun H bh Q q => ⟨"", p, ys, rfl, rfl, .inl (sq_of (bh _ _ sl)), by rw [sm]; show ys.length + ys.length * 0 ≤ _; omega, q⟩) ⟨_, rfl, W⟩
  subst hwv
  have wl : wd.length = wd.cps.toList.length := Array.length_toList.symm
  have W1 := W.pos
  have W2 := W.len
  have e2 := g1'.b.trans g2'.b
  -- at, first, cut
  refine q_par3 (σ := [some u, some (.int many), some (.str letters), none, some (.str wd), none, none, none, none, none, none]) g2 (Pa := Below wd.length) (Pb := Below 26) (Pc := Below 2) (eva_cons (ev_draw hd e2 (evv_var (i := 0) rfl) (by omega) (by omega) (evv_len (Pa := Is (.str wd)) (evv_var (i := 4) rfl) fun B' v e hv H x => by cases hv; exact lenV_str (by omega))) fun B' e => eva_cons (ev_draw hd (e2.trans e) (evv_var (i := 0) rfl) (m := 26) (by decide) (by decide) evv_c) fun B'' e' => eva_cons (ev_draw hd ((e2.trans e).trans e') (evv_var (i := 0) rfl) (m := 2) (by decide) (by decide) evv_c) fun B3 e3 => eva_nil) fun _ _ _ B3 H3 g3 g3' ⟨at_, ha0, a0, a1⟩ ⟨first, hf0, f0, f1⟩ ⟨cut, hc0, c0, c1⟩ => ?_
  subst ha0 hf0 hc0
  have e3 := e2.trans g3'.b
  obtain ⟨an, rfl⟩ := Int.eq_ofNat_of_zero_le a0
  -- by, found
  refine q_parNL (σ := [some u, some (.int many), some (.str letters), none, some (.str wd), some (.int an), some (.int first), some (.int cut), none, none, none]) (P := fun _ v => ∃ b ∈ byL, v = .int b) g3 ?_ fun vb l B4 H4 e4 keep4 nl g4 c4 ⟨b, hb, hvb⟩ => ?_
  · refine evp_op (Pa := IsL K (Iss (byL.map V.int))) (evp_lst (A := Iss (byL.map V.int)) (evas_cons evv_c (evas_cons evv_c (evas_cons evv_c (evas_cons evv_c (evas_cons evv_c (evas_cons evv_c (evas_cons evv_c (evas_cons evv_c eva_nil)))))))) fun B' vs e => by cases e; exact (by decide : 8 ≤ sizeLine)) (fun B' e => ev_draw hd (e3.trans e) (evv_var (i := 0) rfl) (m := 8) (by decide) (by decide) evv_c) fun x y B' e ⟨p, ys, hx, hp, hys⟩ ⟨q, hq, q0, q1⟩ => ?_
    cases hys
    subst hx hq
    obtain ⟨qn, rfl⟩ := Int.eq_ofNat_of_zero_le q0
    have ql : qn < byL.length := by show qn < 8; omega
    exact evr_now (v := .int byL[qn]) (fun H bh Q qq => ⟨p, byL.map V.int, qn, .int byL[qn], rfl, rfl, sq_of (bh _ _ hp), by
      unfold atI
      rw [Evl.ixN_nat (by rw [List.length_map]; exact ql)]
      show (byL.map V.int)[qn]? = _
      rw [List.getElem?_map, List.getElem?_eq_getElem ql]
      rfl, qq⟩) ⟨_, List.getElem_mem ql, rfl⟩
  subst hvb
  -- the names
  have g4' := g4
  refine q_forI (σ := [some u, some (.int many), some (.str letters), none, some (.str wd), some (.int an), some (.int first), some (.int cut), some (.int b), some (.ref l), none]) (R := VR fun i : Nat => V.int i) (evi_rng1 (n := many) (evas_cons (evv_var (i := 1) rfl) eva_nil) ⟨by omega, by omega⟩) g4.bh
    (fun i σ' B' H' => ∃ y3 y10, σ' = [some u, some (.int many), some (.str letters), y3, some (.str wd), some (.int an), some (.int first), some (.int cut), some (.int b), some (.ref l), y10] ∧ Grow B H B' H' ∧ Cell H B' H' l (.lst (((List.range i).map (nmK wd an first b cut)).map V.str))) (fun B5 H5 g5 => ⟨none, none, rfl, g4.trans g5, c4.grow g5⟩) ?_ ?_
  · rintro i k v σ' B' H' B5 H5 eb bh' hi ⟨y3, y10, rfl, gr, cl⟩ g5 hR
    subst hR
    have hk : k = i ∧ (i : Int) < many := by
      obtain ⟨z1, z2⟩ := List.getElem?_eq_some_iff.mp hi
      rw [List.getElem_range] at z2
      rw [List.length_range] at z1
      exact ⟨z2.symm, by omega⟩
    obtain ⟨rfl, km⟩ := hk
    have gr5 := gr.trans g5
    have cl5 := cl.grow g5
    have md : 0 ≤ (first + b * (k : Int)) % 26 ∧ (first + b * (k : Int)) % 26 < 26 := ⟨Int.emod_nonneg _ (by decide), Int.emod_lt_of_pos _ (by decide)⟩
    refine (evg_name (B := B5)) H5 g5.bh _ ?_
    -- tail
    refine q_asg (σ := [some u, some (.int many), some (.str letters), some (.int (k : Nat)), some (.str wd), some (.int an), some (.int first), some (.int cut), some (.int b), some (.ref l), y10]) (Pv := Is (.str (cutS (cutS wd (some ((an : Int) + 1)) none) none (some (((if cut = 0 then 12 else k % 3 : Nat)) : Int))))) gr5 (evv_slS (evv_slS (evv_var (i := 4) rfl) (fun B' e => evo_some (evv_add (evv_var (i := 5) rfl) evv_c)) (fun B' e => evo_none) (by omega)) (fun B' e => evo_none) (fun B' e => evo_some (evv_ixNew (xs := [.int 12, .int ((k : Int) % 3)]) (n := cut.toNat) (evas_cons evv_c (evas_cons (evv_mod (evv_var (i := 3) rfl) evv_c (by decide)) eva_nil)) (by simp) (evv_cast (evv_var (i := 7) rfl) (by rw [Int.toNat_of_nonneg c0])) ?_)) ?_) fun wt B6 H6 g6 g6' ht => ?_
    · rcases (show cut = 0 ∨ cut = 1 by omega) with z | z
      · subst z; rfl
      · subst z
        show some (V.int ((k : Int) % 3)) = _
        rw [if_neg (by decide), Int.natCast_emod]
        rfl
    · have : (cutS wd (some ((an : Int) + 1)) none).cps.toList.length ≤ 100000 := by
        rw [show ((an : Int) + 1) = ((an + 1 : Nat) : Int) by omega, cut_from_none, List.length_drop]
        omega
      rw [Array.length_toList] at this
      exact this
    cases ht
    have cl6 := cl5.grow g6'
    have tlen : (cutS (cutS wd (some ((an : Int) + 1)) none) none (some (((if cut = 0 then 12 else k % 3 : Nat)) : Int))).length ≤ 12 := by
      rw [strl, cut_none_to, show ((an : Int) + 1) = ((an + 1 : Nat) : Int) by omega, cut_from_none, List.length_take, List.length_drop]
      omega
    have hlen1 : (cutS wd none (some (an : Int))).length ≤ 12 := by
      rw [strl, cut_none_to, List.length_take]
      omega
    refine s_app g6 cl6 (j := 9) rfl (Pv := Is (.str (nmK wd an first b cut k))) (evv_cat (evv_cat (evv_slS (evv_var (i := 4) rfl) (fun B' e => evo_none) (fun B' e => evo_some (evv_var (i := 5) rfl)) (by omega)) (evv_ixS (n := ((first + b * (k : Int)) % 26).toNat) (evv_var (i := 2) rfl) (evv_cast (evv_mod (evv_add (evv_var (i := 6) rfl) (evv_mul (evv_var (i := 8) rfl) (evv_var (i := 3) rfl) ?_)) evv_c (by decide)) (by rw [Int.toNat_of_nonneg md.1])) (by decide +kernel) (letC_mem md).2) ?_) (evv_var (i := 10) rfl) ?_) ?_ fun w7 B7 H7 e7 _ g7 c7 p7 => ?_
    · have hbb : 1 ≤ b ∧ b ≤ 17 := by
        simp only [byL, List.mem_cons, List.not_mem_nil, or_false] at hb
        omega
      exact .inl ⟨by omega, by omega⟩
    · show _ + 1 ≤ _
      omega
    · have : (cutS wd none (some (an : Int)) ++ (⟨#[letC ((first + b * (k : Int)) % 26)]⟩ : Str)).length ≤ 13 := by
        rw [strl, cps_app, List.length_append, ← strl]
        show _ + 1 ≤ _
        omega
      omega
    · rw [List.length_map, List.length_map, List.length_range]
      omega
    · cases p7
      refine ⟨B7, g5.b.trans (g6'.b.trans e7), g7.bh, _, _, rfl, g7, ?_⟩
      rw [List.range_succ, List.map_append, List.map_append]
      exact c7
  · rintro σ' B' H' eb bh' ⟨y3, y10, rfl, gr, cl⟩
    rw [List.length_range] at cl
    have hat : an < wd.cps.toList.length := by omega
    exact ⟨_, rfl, r _ _ _ (gr.freeze cl) ⟨_, names_ok W hat hb (by omega) h26, l, _, rfl, upd_same, items_vr⟩⟩
end
end K7

set_option Elab.async false
set_option linter.all false
set_option maxRecDepth 100000
set_option maxHeartbeats 8000000
namespace K7
open PySem PySem.Spec PySem.W L2 Pw
open PyProof.Rows hiding St
open Evl (sq_of st_of)
variable [Tbs]
/-! ### the law's tasks, plans, houses -/
def oneD (t : TaskD) : PyData := .tuple [.str t.name, .int t.rank, .int t.gap, .int t.most, .int t.due, .int t.wait, .tuple []]
structure OneOk (t : TaskD) : Prop where
  name : isName t.name = true
  rank : 1 ≤ t.rank
  gap : 1 ≤ t.gap ∧ t.gap ≤ 60
  most : 1 ≤ t.most ∧ t.most ≤ 12
  due : t.due = t.gap
  wait : 0 ≤ t.wait ∧ t.wait ≤ 19
  secs : t.secs = []
theorem OneOk.right {t : TaskD} (h : OneOk t) : Right t.name t.rank t.gap t.most (some t.due) t.wait [] := ⟨h.name, h.rank, h.gap.1, h.most.1, fun x e => by
  cases e
  rw [h.due]
  exact ⟨h.gap.1, Int.le_refl _⟩, h.wait.1, rfl, ⟨(fun _ h => nomatch h), by simp⟩⟩
theorem OneOk.ts {ts : List TaskD} (U : Unlike ts) (h : ∀ t ∈ ts, OneOk t) : TsOk ts := ⟨U, fun t ht => (h t ht).most.1, fun t ht => (isName_strOk (h t ht).name).1⟩
theorem unlike_one {t : TaskD} (h : t.secs = []) : Unlike [t] := ⟨by simp, by simp, by simp, fun u hu => by rw [List.mem_singleton.mp hu]; exact h⟩
def R_lawTask (K : PySem.W.Frag) (c : Cs) : Hp → List V → (Hp → V → Prop) → Prop := fun B vs P => ∃ (v : V) (t : TaskD), vs = [v] ∧ DR K oneD B v t ∧ OneOk t ∧ P = TaskAt' K c t
def R_lawPlan (K : PySem.W.Frag) (c : Cs) : Hp → List V → (Hp → V → Prop) → Prop := fun B vs P => ∃ (v : V) (ts : List TaskD), vs = [v] ∧ LsOf K (DR K oneD) ts B v ∧ Unlike ts ∧ (∀ t ∈ ts, OneOk t) ∧ P = PlanAt' K c ts
abbrev OnesR (K : PySem.W.Frag) : Rl (List TaskD) := fun B v ts => LsOf K (DR K oneD) ts B v
instance {K : PySem.W.Frag} : MonoR (OnesR K) := ⟨fun e h => Mono.up (P := LsOf K (DR K oneD) _) e h⟩
def spLawHouse (K : PySem.W.Frag) (c : Cs) : Sp := fun vs H Q _ => ∃ (B : Hp) (pv : V) (first : Str) (plans : List (Str × List TaskD)), vs = [pv, .str first] ∧ Ex B H ∧ FzMap (OnesR K) plans B pv ∧ (plans.map (·.1)).Nodup ∧ plans.length ≤ 100 ∧ (∀ p ∈ plans, Unlike p.2 ∧ ∀ t ∈ p.2, OneOk t) ∧ first ∈ plans.map (·.1) ∧
  ∀ B' H' a, Grow B H B' H' → HouseC K c H B' H' a ⟨plans, first, [], [], 0⟩ → Q (.ref a.x) H'
def R_lawOne (K : PySem.W.Frag) : Hp → List V → (Hp → V → Prop) → Prop := fun B vs P => ∃ (u : V) (n : Str), vs = [u, .str n] ∧ DeckAt B u ∧ isName n = true ∧ P = fun B' v => ∃ t, OneOk t ∧ t.name = n ∧ DR K oneD B' v t
section
variable {K : PySem.W.Frag} {c : Cs} {H0 H1 B0 B H : Hp} {a : HouseL} {h : Hs} {σ : L2.St} {wi : TI} {tr : TA} {P : Hp → V → Prop} {A : Hp → List V → Prop}
theorem HouseC.down (e : Ex H0 H1) (h1 : HouseC K c H1 B H a h) : HouseC K c H0 B H a h := by
  obtain ⟨⟨dx, pv, c1, f1⟩, ⟨ys, c2, i2⟩, c3⟩ := h1
  exact ⟨⟨dx, pv, ⟨c1.at_, c1.nb, ex_none e c1.n0, c1.po⟩, f1⟩, ⟨ys, ⟨c2.at_, c2.nb, ex_none e c2.n0, c2.po⟩, i2⟩, ⟨c3.at_, c3.nb, ex_none e c3.n0, c3.po⟩⟩
theorem ex_make0 {x dx C : Addr} {fs : List (Str × V)} (t : Tb H) (hx : H x = none) (hdx : H dx = none) (n : dx ≠ x) : Ex H (delA (upd (upd H dx (.own x)) x (.ins C dx fs)) x) := by
  have h2 : upd H dx (.own x) x = none := by rw [upd_ne n.symm]; exact hx
  have t2 : Tb (upd (upd H dx (.own x)) x (.ins C dx fs)) := (t.new hdx).new h2
  have e : ∀ a o, H a = some o → delA (upd (upd H dx (.own x)) x (.ins C dx fs)) x a = some o := fun a o h => by
    rw [delA_ne (ne_of_none h hx), upd_ne (ne_of_none h hx), upd_ne (ne_of_none h hdx)]
    exact h
  exact ⟨fun a o h _ => e a o h, fun a ps h => ⟨ps, e a _ h⟩, t, t2.del upd_same po_ins⟩
theorem evi_unmap {α β : Type} {f : β → V} {g : α → β} {as : List α} (h : EvI wi σ B (VR fun a => f (g a)) as) : EvI wi σ B (VR f) (as.map g) := fun H bh Rk k => h H bh Rk fun J B' H' gr w => k J B' H' gr ⟨fun H x => by
  have := w.stop H x
  rw [List.length_map]
  exact this, fun i b H x hi => by
  rw [List.getElem?_map, Option.map_eq_some_iff] at hi
  obtain ⟨a, ha, rfl⟩ := hi
  exact w.go i a H x ha, fun i b H v H' x hi y B1 e1 b1 => by
  rw [List.getElem?_map, Option.map_eq_some_iff] at hi
  obtain ⟨a, ha, rfl⟩ := hi
  exact w.yld i a H v H' x ha y B1 e1 b1⟩
theorem evi_names {α : Type} {te : TE} {as : List (Str × α)} {kvs : List (Key × V)} (h : EvP te σ B (FzD kvs)) (d : kvs.map (·.1) = as.map sKey) : EvI (iKeys te) σ B (VR fun p : Str × α => V.str p.1) as := by
  have h1 := evi_unmap (f := kV) (g := fun q : Key × V => q.1) (evi_keysF h)
  rw [d] at h1
  exact evi_map (f := kV) (g := sKey) h1
theorem evp_callW {R : Hp → List V → (Hp → V → Prop) → Prop} {E : XK} (h : EvA tr σ B A) (k : ∀ B' vs, Ex B B' → A B' vs → ∃ P', R B' vs P' ∧ ∀ B'' v, Ex B' B'' → P' B'' v → P B'' v) : EvP (tCall (Pure R) [] E tr) σ B P := fun H bh Q q => h H bh _ fun vs B1 H1 g p => by
  obtain ⟨P', h1, h2⟩ := k B1 vs g.b p
  exact ⟨B1, P', g.bh, by rw [List.append_nil]; exact h1, fun v B2 H2 g2 p2 => q v B2 H2 (g.trans g2) (h2 _ _ g2.b p2)⟩
end
section
variable {P : Program} {w : World} {K : PySem.W.Frag} {mg : Str → Option Value} {base : Heap} {c : Cs} {f : Addr} {fd : FuncData}
abbrev s__law_task : Stmt := top 45
theorem sc__law_task : FnScope ["one"] ["one"] (defScope s__law_task) := ⟨rfl, rfl, rfl, by decide +kernel, rfl, by decide +kernel, by decide +kernel⟩
/- slots: 0=one -/
theorem ok_law_task (F : Fun K "_law_task" "_law_task" s__law_task f fd) (T : Txt K mg c) (G_Task_rank_gap_most_due_wait_sections : Gck P w K mg base 5 "Task" c.Task ["self", "name", "rank", "gap", "most", "due", "wait", "sections"] 1 ["rank", "gap", "most", "due", "wait", "sections"] (fun vs zs => vs ++ zs) (Ctor c.Task (R_Task K))) : FnOk P w K mg base CX0 7 f fd ["one"] (Pure (R_lawTask K c)) := by
  refine pure_ok F sc__law_task (fun B vs P' ⟨v, t, h, _⟩ => by rw [h]; rfl) fun cdv A outer s H0 E hr => ?_
  refine ⟨_, (pss_one (ps_ret (pe_gck G_Task_rank_gap_most_due_wait_sections (hr.mono (by decide)) (by rfl) (pa_cons (pe_ix ix_tup (pv 0) pe_int (fun _ _ => rfl)) pa_nil) (pk_cons (pe_ix ix_tup (pv 0) pe_int (fun _ _ => rfl)) (pk_cons (pe_ix ix_tup (pv 0) pe_int (fun _ _ => rfl)) (pk_cons (pe_ix ix_tup (pv 0) pe_int (fun _ _ => rfl)) (pk_cons (pe_ix ix_tup (pv 0) pe_int (fun _ _ => rfl)) (pk_cons (pe_ix ix_tup (pv 0) pe_int (fun _ _ => rfl)) (pk_cons (pe_ix ix_tup (pv 0) pe_int (fun _ _ => rfl)) pk_nil))))))))), fun B vs P' ⟨v, t, hv, hd, O, hP⟩ => ?_⟩
  subst hv hP
  have ix : ∀ (B' : Hp) (n : Nat) (d : PyData), Ex B B' → ([.str t.name, .int t.rank, .int t.gap, .int t.most, .int t.due, .int t.wait, .tuple []] : List PyData)[n]? = some d → EvD K (tOp (rIxT K) (tVar 0) (tC (.int (n : Nat)))) [some v] B' d := fun B' n d e hn => evd_ixT (evp_var (P := fun B w => Dp K B w (oneD t)) (i := 0) rfl (dp_up e hd)) evv_c hn
  refine fun H bh D r n => evs_ret (P := TaskAt' K c t) (EvP.imp (evp_makeK (A := Iss [.str t.name]) (A2 := ConsP (Is (.int t.rank)) (ConsP (Is (.int t.gap)) (ConsP (Is (.int t.most)) (ConsP (Is (.int t.due)) (ConsP (Is (.int t.wait)) (ConsP (IsD K (.tuple [])) (Iss [])))))))
    (P := fun B' fs => ∃ sv', fs = taskF t sv' ∧ TsOf K (DR K secD) [] B' sv') (evas_cons (evv_ofD_str (ix B 0 _ (.refl bh.l) rfl)) eva_nil) (fun B' e => eva_cons (evv_ofD_int (ix B' 1 _ e rfl)) fun B2 e2 => eva_cons (evv_ofD_int (ix B2 2 _ (e.trans e2) rfl)) fun B3 e3 => eva_cons (evv_ofD_int (ix B3 3 _ ((e.trans e2).trans e3) rfl)) fun B4 e4 => eva_cons (evv_ofD_int (ix B4 4 _ (((e.trans e2).trans e3).trans e4) rfl)) fun B5 e5 => eva_cons (evv_ofD_int (ix B5 5 _ ((((e.trans e2).trans e3).trans e4).trans e5) rfl)) fun B6 e6 => eva_cons (P := IsD K (.tuple [])) (ix B6 6 _ (((((e.trans e2).trans e3).trans e4).trans e5).trans e6) rfl) fun B7 e7 => eva_nil) fun B' vs zs e hvs ⟨_, _, z1, y1, _, _, z2, y2, _, _, z3, y3, _, _, z4, y4, _, _, z5, y5, sv, _, z6, y6, z7⟩ => ?_) fun B' v' e ⟨a, dx, fs, h1, h2, sv', h3, h4⟩ => ?_) H bh D r n
  · cases hvs
    cases z7
    cases y1
    cases y2
    cases y3
    cases y4
    cases y5
    subst z6 z5 z4 z3 z2 z1
    refine ⟨rfl, rfl, fun x => ⟨_, rfl, t.name, t.rank, t.gap, t.most, some t.due, t.wait, sv, rfl, .inr (d_tsOf (f := secD) (as := []) y6), O.right, ?_⟩⟩
    have et : t = ⟨t.name, t.rank, t.gap, t.most, (some t.due).getD t.gap, t.wait, []⟩ := by
      have hs := O.secs
      obtain ⟨t1, t2, t3, t4, t5, t6, t7⟩ := t
      have hs : t7 = [] := hs
      subst hs
      rfl
    rw [← et]
  · refine ⟨a, dx, sv', h1, by rw [← h3]; exact h2, ?_⟩
    rw [O.secs]
    exact h4
abbrev s__law_plan : Stmt := top 46
theorem sc__law_plan : FnScope ["tasks", "one"] ["tasks"] (defScope s__law_plan) := ⟨rfl, rfl, rfl, by decide +kernel, rfl, by decide +kernel, by decide +kernel⟩
/- slots: 0=tasks 1=one -/
theorem ok_law_plan (F : Fun K "_law_plan" "_law_plan" s__law_plan f fd) (T : Txt K mg c) (G__law_task : Gf P w K mg base 7 "_law_task" ["one"] [] (Pure (R_lawTask K c))) (G_Plan : Gc P w K mg base 1 "Plan" c.Plan ["self", "tasks"] [] (Ctor c.Plan (R_Plan K c))) : FnOk P w K mg base CX0 8 f fd ["tasks"] (Pure (R_lawPlan K c)) := by
  refine pure_ok F sc__law_plan (fun B vs P' ⟨v, ts, h, _⟩ => by rw [h]; rfl) fun cdv A outer s H0 E hr => ?_
  refine ⟨_, (pss_one (ps_ret (pe_gc G_Plan (hr.mono (by decide)) (by rfl) (pa_cons (pe_lc (own := [("one", 1)]) rfl sc__law_plan.nd (pi_list (pv 0)) (blkOk_by (N := ["tasks", "one"]) (sc := defScope s__law_plan) (by decide +kernel)) (fun _ _ _ _ _ => (pg_name (i := 1) sc__law_plan.nd rfl (by first | exact Or.inl rfl | exact Or.inr rfl))) (fun _ _ _ _ _ => pts_nil) (fun _ _ _ _ _ => (pe_g G__law_task (hr.mono (by decide)) (by rfl) (pa_cons (pv 1) pa_nil)))) pa_nil)))), fun B vs P' ⟨v, ts, hv, hl, U, O, hP⟩ => ?_⟩
  subst hv hP
  refine evs_ret (EvP.imp (evp_make (A := ConsP (LsOf K (TaskAt K c) ts) (Iss [])) (P := PlanIs K c ts) (eva_cons (P := LsOf K (TaskAt K c) ts) (EvP.imp (evp_lcA (K := K) (R := DR K oneD) (S := TaskAt K c) (fun t : TaskD => t) (evi_list (evp_var (i := 0) rfl hl)) (by have := U.len; omega) fun B' x t e ht hx => ⟨_, evg_name, rfl, evp_call (evas_cons (evv_var (i := 1) rfl) eva_nil) fun B2 vs e2 hvs => by
    cases hvs
    exact ⟨x, t, rfl, dp_up e2 hx, O t ht, rfl⟩⟩) fun _ _ _ h => by rw [List.map_id'] at h; exact h) fun B' e => eva_nil) fun B' vs e ⟨u, r, h1, h2, h3⟩ => by
      cases h3
      subst h1
      exact ⟨u, ts, rfl, h2, U, rfl⟩) fun B' v' e h => h)
abbrev s__law_one : Stmt := top 49
theorem sc__law_one : FnScope ["deck", "name", "space"] ["deck", "name"] (defScope s__law_one) := ⟨rfl, rfl, rfl, by decide +kernel, rfl, by decide +kernel, by decide +kernel⟩
/- slots: 0=deck 1=name 2=space -/
theorem ok_law_one (F : Fun K "_law_one" "_law_one" s__law_one f fd) (T : Txt K mg c) (G__law_of : Gf P w K mg base 1 "_law_of" ["deck", "many"] [] (Pure R_lawOf)) : FnOk P w K mg base CX0 2 f fd ["deck", "name"] (Pure (R_lawOne K)) := by
  refine pure_ok F sc__law_one (fun B vs P' ⟨u, n, h, _⟩ => by rw [h]; rfl) fun cdv A outer s H0 E hr => ?_
  refine ⟨_, (pss_cons (ps_set (i := 2) sc__law_one.nd rfl (by first | exact Or.inl rfl | exact Or.inr rfl) (pe_op op_add pe_int (pe_g G__law_of (hr.mono (by decide)) (by rfl) (pa_cons (pv 0) (pa_cons (pe_ix ix_list (pe_lst (pa_cons pe_int (pa_cons pe_int pa_nil))) (pe_g G__law_of (hr.mono (by decide)) (by rfl) (pa_cons (pv 0) (pa_cons pe_int pa_nil))) (fun _ _ => rfl)) pa_nil)))))
        (pss_one (ps_ret (pe_tup (pa_cons (pv 1) (pa_cons (pe_op op_add pe_int (pe_g G__law_of (hr.mono (by decide)) (by rfl) (pa_cons (pv 0) (pa_cons pe_int pa_nil)))) (pa_cons (pv 2) (pa_cons (pe_op op_add pe_int (pe_g G__law_of (hr.mono (by decide)) (by rfl) (pa_cons (pv 0) (pa_cons pe_int pa_nil)))) (pa_cons (pv 2) (pa_cons (pe_g G__law_of (hr.mono (by decide)) (by rfl) (pa_cons (pv 0) (pa_cons pe_int pa_nil))) (pa_cons (pe_tup pa_nil) pa_nil))))))))))), fun B vs P' ⟨u, n, hv, hd, hn, hP⟩ => ?_⟩
  subst hv hP
  refine fun H bh D r nx => ?_
  haveI m9 : Mono (fun (_ : Hp) (v : V) => ∃ m : Int, v = .int m ∧ 1 ≤ m ∧ m ≤ 60) := ⟨fun _ h => h⟩
  -- space
  refine q_asg (σ := [some u, some (.str n), none]) (Pv := fun _ v => ∃ g : Int, v = .int g ∧ 1 ≤ g ∧ g ≤ 60) (Grow.refl bh) (evp_op (Pb := Below 60) evv_c (fun B' e => evp_callW (A := ConsP (Is u) (ConsP (fun _ v => ∃ m : Int, v = .int m ∧ 1 ≤ m ∧ m ≤ 60) (Iss []))) (eva_cons (evv_var (i := 0) rfl) fun B2 e2 => eva_cons ?_ fun B3 e3 => eva_nil) fun B2 vs e2 ⟨_, _, h1, h2, ⟨_, _, h3, ⟨m, h4, m1, m2⟩, h5⟩⟩ => ?_) fun x y B' e hx ⟨k, hk, k0, k1⟩ => ?_) fun gv B1 H1 g1 g1' ⟨gp, hg, gp1, gp2⟩ => ?_
  · refine evp_op (Pa := IsL K (Iss ([9, 60].map V.int))) (evp_lst (A := Iss ([9, 60].map V.int)) (evas_cons evv_c (evas_cons evv_c eva_nil)) fun B' vs e => by cases e; exact (by decide : 2 ≤ sizeLine)) (fun B3 e3 => ev_draw hd ((e.trans e2).trans e3) (evv_var (i := 0) rfl) (m := 2) (by decide) (by decide) evv_c) fun x y B3 e3 ⟨p, ys, hx, hp, hys⟩ ⟨q, hq, q0, q1⟩ => ?_
    cases hys
    subst hx hq
    rcases (show q = 0 ∨ q = 1 by omega) with z | z
    · subst z
      exact evr_now (v := .int 9) (fun H bh Q qq => ⟨p, _, 0, .int 9, rfl, rfl, sq_of (bh _ _ hp), rfl, qq⟩) ⟨9, rfl, by decide, by decide⟩
    · subst z
      exact evr_now (v := .int 60) (fun H bh Q qq => ⟨p, _, 1, .int 60, rfl, rfl, sq_of (bh _ _ hp), rfl, qq⟩) ⟨60, rfl, by decide, by decide⟩
  · cases h5
    cases h2
    subst h3 h4
    subst h1
    exact ⟨_, ⟨u, m, rfl, hd.up (e.trans e2), m1, by omega, rfl⟩, fun B3 v e3 ⟨k, hk, k0, k1⟩ => ⟨k, hk, k0, by omega⟩⟩
  · cases hx
    subst hk
    exact evr_now (v := .int (1 + k)) (fun H bh Q q => ⟨1, k, rfl, rfl, q⟩) ⟨1 + k, rfl, by omega, by omega⟩
  subst hg
  have e1 := g1'.b
  have d1 : ∀ (m : Int) (B' : Hp), Ex B1 B' → 1 ≤ m → m < 1000000 → EvP (tOp (rI0 fun i j => .int (i + j)) (tC (.int 1)) (tCall (Pure R_lawOf) [] E0 (tCons (tVar 0) (tCons (tC (.int m)) tNil)))) [some u, some (.str n), some (.int gp)] B' (fun _ v => ∃ k : Int, v = .int k ∧ 1 ≤ k ∧ k ≤ m) := fun m B' e m1 m2 => evp_op evv_c (fun B2 e2 => ev_draw hd ((e1.trans e).trans e2) (evv_var (i := 0) rfl) m1 m2 evv_c) fun x y B2 e2 hx ⟨k, hk, k0, k1⟩ => by
    cases hx
    subst hk
    exact evr_now (v := .int (1 + k)) (fun H bh Q q => ⟨1, k, rfl, rfl, q⟩) ⟨1 + k, rfl, by omega, by omega⟩
  haveI mk : ∀ m : Int, Mono (fun (_ : Hp) (v : V) => ∃ k : Int, v = .int k ∧ 1 ≤ k ∧ k ≤ m) := fun m => ⟨fun _ h => h⟩
  refine (evp_tup (K := K) (σ := [some u, some (.str n), some (.int gp)]) (A := ConsP (Is (.str n)) (ConsP (fun _ v => ∃ k : Int, v = .int k ∧ 1 ≤ k ∧ k ≤ 9) (ConsP (Is (.int gp)) (ConsP (fun _ v => ∃ k : Int, v = .int k ∧ 1 ≤ k ∧ k ≤ 12) (ConsP (Is (.int gp)) (ConsP (Below 20) (ConsP (IsD K (.tuple [])) (Iss []))))))))
    (eva_cons (evv_var (i := 1) rfl) fun B2 e2 => eva_cons (d1 9 B2 e2 (by decide) (by decide)) fun B3 e3 => eva_cons (evv_var (i := 2) rfl) fun B4 e4 => eva_cons (d1 12 B4 ((e2.trans e3).trans e4) (by decide) (by decide)) fun B5 e5 => eva_cons (evv_var (i := 2) rfl) fun B6 e6 => eva_cons (ev_draw hd ((((((e1.trans e2).trans e3).trans e4).trans e5)).trans e6) (evv_var (i := 0) rfl) (m := 20) (by decide) (by decide) evv_c) fun B7 e7 => eva_cons (P := IsD K (.tuple [])) (evd_tup (K := K) (ds := []) evds_nil) fun B8 e8 => eva_nil)
    fun B' vs ⟨_, _, h1, _, ⟨_, _, h2, _, ⟨_, _, h3, _, ⟨_, _, h4, _, ⟨_, _, h5, _, ⟨_, _, h6, _, ⟨_, _, h7, _, h8⟩⟩⟩⟩⟩⟩⟩ => by cases h8; subst h7; subst h6; subst h5; subst h4; subst h3; subst h2; subst h1; exact (by decide : 7 ≤ sizeLine)) H1 g1.bh _ fun tv B9 H9 g9 ⟨p, xs, hp, sp, ⟨_, _, h1, a1, ⟨_, _, h2, ⟨k2, a2, b2, c2⟩, ⟨_, _, h3, a3, ⟨_, _, h4, ⟨k4, a4, b4, c4⟩, ⟨_, _, h5, a5, ⟨_, _, h6, ⟨k6, a6, b6, c6⟩, ⟨_, _, h7, a7, h8⟩⟩⟩⟩⟩⟩⟩⟩ => ?_
  cases h8
  subst h7; subst h6; subst h5; subst h4; subst h3; subst h2; subst h1
  cases a1
  cases a3
  cases a5
  subst a2 a4 a6 hp
  refine r _ B9 H9 (g1.trans g9) ⟨⟨n, k2, gp, k4, gp, k6, []⟩, ⟨hn, b2, ⟨gp1, gp2⟩, ⟨b4, c4⟩, rfl, ⟨b6, by show k6 ≤ 19; omega⟩, rfl⟩, rfl, ?_⟩
  exact .tup sp (.cons (.str n) (.cons (.int k2) (.cons (.int gp) (.cons (.int k4) (.cons (.int gp) (.cons (.int k6) (.cons a7 .nil)))))))
abbrev s__law_house : Stmt := top 47
theorem sc__law_house : FnScope ["plans", "first", "name"] ["plans", "first"] (defScope s__law_house) := ⟨rfl, rfl, rfl, by decide +kernel, rfl, by decide +kernel, by decide +kernel⟩
/- slots: 0=plans 1=first 2=name -/
theorem ok_law_house (F : Fun K "_law_house" "_law_house" s__law_house f fd) (T : Txt K mg c) (G__law_plan : Gf P w K mg base 8 "_law_plan" ["tasks"] [] (Pure (R_lawPlan K c))) (G_House : Gc P w K mg base 1 "House" c.House ["self", "plans", "first"] [] (spHouse K c)) : FnOk P w K mg base CX0 9 f fd ["plans", "first"] (spLawHouse K c) := by
  refine sp_ok F sc__law_house (fun vs H Q E ⟨B, pv, first, plans, h, _⟩ => by rw [h]; rfl) fun cdv A outer s0 Hh E hr => ?_
  have hu := hu_of hr
  refine ⟨_, (pss_one (ps_ret (pe_gc G_House (hr.mono (by decide)) (by rfl) (pa_cons (pe_fz (pe_callTy (call_dictP rfl) (by rfl) T.b_dict (by decide +kernel) (pa_cons (pe_lc (own := [("name", 2)]) rfl sc__law_house.nd (pi_keys (pv 0)) (blkOk_by (N := ["plans", "first", "name"]) (sc := defScope s__law_house) (by decide +kernel)) (fun _ _ _ _ _ => (pg_name (i := 2) sc__law_house.nd rfl (by first | exact Or.inl rfl | exact Or.inr rfl))) (fun _ _ _ _ _ => pts_nil) (fun _ _ _ _ _ => (pe_tup (pa_cons (pv 2) (pa_cons (pe_g G__law_plan (hr.mono (by decide)) (by rfl) (pa_cons (pe_dget hu (pv 0) (pv 2) (fun _ _ => rfl)) pa_nil)) pa_nil))))) pa_nil))) (pa_cons (pv 1) pa_nil))))), fun vs H Q E' ⟨B, pv, first, plans, hv, bh, ⟨kvs, hfz, dm⟩, nd, pl, ok, hf, k⟩ => ?_⟩
  subst hv
  have hdict : EvP (tFz (tCB (fun xs H Q => ∃ (a : Addr) (ps : List Addr) (kvs : List (Key × V)), xs = [.ref a] ∧ SqL K H a (ps.map V.ref) ∧ Paired (fun p kv => SqT K H p [kV kv.1, kv.2]) ps kvs ∧ ∀ p, H p = none → Q (.ref p) (upd H p (.dK (mergeK [] kvs)))) (tCons (tLc (iKeys (tVar 0)) (gName 2) tYes (tTup (tCons (tVar 2) (tCons (tCall (Pure (R_lawPlan K c)) [] E0 (tCons (tDGet (tVar 0) (tVar 2)) tNil)) tNil))) [2]) tNil))) [some pv, some (.str first), none] B (FzMap (PlanAt K c) plans) := by
    refine evp_dictP (EvP.imp (evp_lcA (K := K) (R := VR fun p : Str × List TaskD => V.str p.1) (S := PrR K (PlanAt K c)) (fun p : Str × List TaskD => p) (evi_names (evp_var (i := 0) rfl hfz) dm.keys) (by omega) fun B' x p e hp hx => ⟨_, evg_name, rfl, ?_⟩) fun _ _ _ h => by rw [List.map_id'] at h; exact h) nd
    subst hx
    obtain ⟨v, hv1, hv2⟩ := dm.at_ p hp
    obtain ⟨U, O⟩ := ok p hp
    refine EvP.imp (evp_tup (K := K) (A := ConsP (Is (.str p.1)) (ConsP (PlanAt' K c p.2) (Iss []))) (eva_cons (evv_var (i := 2) rfl) fun B2 e2 => eva_cons (P := PlanAt' K c p.2) (evp_call (A := ConsP (LsOf K (DR K oneD) p.2) (Iss [])) (eva_cons (P := LsOf K (DR K oneD) p.2) (evp_dgetR (k := sKey p) (evp_var (P := RdD kvs) (i := 0) rfl (Mono.up (e.trans e2) hfz.rd)) (evv_var (i := 2) rfl) hv1 (Mono.up (P := LsOf K (DR K oneD) p.2) (e.trans e2) hv2)) fun B3 e3 => eva_nil) fun B3 vs e3 ⟨u, r, h1, h2, h3⟩ => ?_) fun B3 e3 => eva_nil) fun B' vs ⟨_, _, h1, _, ⟨_, _, h2, _, h3⟩⟩ => by cases h3; subst h2; subst h1; exact (by decide : 2 ≤ sizeLine)) fun B' v e ⟨q, xs, h1, h2, ⟨_, _, h3, h4, ⟨u, _, h5, h6, h7⟩⟩⟩ => ?_
    · cases h3
      subst h1
      exact ⟨u, p.2, rfl, h2, U, O, rfl⟩
    · cases h7
      cases h4
      subst h5
      subst h3
      exact ⟨q, u, h1, h2, h6⟩
  refine (eva_cons (A := Iss [.str first]) hdict fun B' e => evas_cons (evv_var (i := 1) rfl) eva_nil) H bh (fun vs H1 => ∀ x dx, H1 x = none → H1 dx = none → dx ≠ x → spHouse K c (.ref x :: (vs ++ [])) (upd (upd H1 dx (.own x)) x (.ins c.House dx [])) (fun v H2 => v = .non ∧ Q (.ref x) H2) E0) fun vs B1 H1 g1 ⟨v1, r1, h1, h2, h3⟩ => ?_
  cases h3
  subst h1
  intro x dx hx hdx n
  refine ⟨B1, x, dx, v1, first, plans, rfl, ex_make g1.bh hx hdx n, upd_same, ex_none g1.bh hx, h2, hf, fun B2 H2 l wd g2 hc => ⟨rfl, k B2 H2 ⟨x, l, wd⟩ (g1.trans (make_grow g1.bh hx hdx n g2)) (hc.down (g1.h.trans (ex_make0 g1.bh.r hx hdx n)))⟩⟩
end
end K7

set_option Elab.async false
set_option linter.all false
set_option maxRecDepth 100000
set_option maxHeartbeats 8000000
namespace K7
open PySem PySem.Spec PySem.W L2 Pw
open PyProof.Rows hiding St
open Evl (sq_of st_of)
variable [Tbs]
/-! ### the law's own reckoning -/
structure LJ where
  at_ : Int
  name : Str
  nth : Nat
  arr : Int
  rel : Int
  work : Int
  does : Int
  fin : Int
def ljD (j : LJ) : PyData := .tuple [.int j.at_, .str j.name, .int (j.nth : Nat), .int j.arr, .int j.rel, .int j.work, .int j.does, .int j.fin]
def loGo (t : TaskD) (at_ : Int) : Option Int → Nat → Int → List W3i → List LJ
  | _, _, _, [] => []
  | last, nth, free, q :: r => ⟨at_, t.name, nth, arrOf t last q.1, max q.1 (arrOf t last q.1), q.2.1, min q.2.1 t.most, max free (max q.1 (arrOf t last q.1)) + min q.2.1 t.most⟩ ::
      loGo t at_ (some (arrOf t last q.1)) (nth + 1) (max free (max q.1 (arrOf t last q.1)) + min q.2.1 t.most) r
def loOf (t : TaskD) (at_ : Int) (rows : List W3i) (free : Int) : List LJ := loGo t at_ none 0 free (srt p3D rows)
theorem loGo_len (t : TaskD) (at_ : Int) : ∀ (rows : List W3i) (last : Option Int) (nth : Nat) (free : Int), (loGo t at_ last nth free rows).length = rows.length
  | [], _, _, _ => rfl
  | _ :: r, _, _, _ => congrArg Nat.succ (loGo_len t at_ r _ _ _)
def mineL (begun : Int) (rows : List W3i) : List W3i := srt p3D (rows.map fun q => (max q.1 begun, q.2.1, q.2.2))
def goneJobs (t : TaskD) (at_ : Int) (rows : List W3i) (begun asked : Int) : List LJ := (loOf t at_ ((mineL begun rows).filter fun q => decide (q.1 < asked)) begun).filter fun j => decide (j.arr ≤ asked)
def goneFin (jobs : List LJ) (asked : Int) : Int := maxI ((jobs.map fun j => j.fin) ++ [asked])
def goneLeft (jobs : List LJ) (begun : Int) (rows : List W3i) : List W3i := (mineL begun rows).drop jobs.length
def R_lawAfter (K : PySem.W.Frag) : Hp → List V → (Hp → V → Prop) → Prop := fun B vs P => ∃ (ov rv : V) (at_ free : Int) (t : TaskD) (rows : List W3i), vs = [ov, .int at_, rv, .int free] ∧ DR K oneD B ov t ∧ LsOf K (DR K p3D) rows B rv ∧ rows.length ≤ 1000 ∧ P = LsOf K (DR K ljD) (loOf t at_ rows free)
def R_lawGone (K : PySem.W.Frag) : Hp → List V → (Hp → V → Prop) → Prop := fun B vs P => ∃ (ov rv : V) (at_ begun asked : Int) (t : TaskD) (rows : List W3i), vs = [ov, .int at_, rv, .int begun, .int asked] ∧ DR K oneD B ov t ∧ LsOf K (DR K p3D) rows B rv ∧ rows.length ≤ 1000 ∧
  P = IsU K (ConsP (LsOf K (DR K ljD) (goneJobs t at_ rows begun asked)) (ConsP (Is (.int (goneFin (goneJobs t at_ rows begun asked) asked))) (ConsP (LsOf K (DR K p3D) (goneLeft (goneJobs t at_ rows begun asked) begun rows)) (Iss []))))
section
variable {K : PySem.W.Frag} {ta te th : TE} {σ : L2.St} {B B0 H0 H : Hp} {D : Ends} {tz : TS} {α : Type} {R : Rl α} {as : List α} {n : Nat} {v : V}
theorem q_parLC {i j : Nat} (g : Grow B0 H0 B H) (k : ∀ p H', H p = none → Grow B0 H0 B H' → Cell H0 B H' p (.lst []) → tz D ((σ.set i (some (.ref p))).set j (some v)) H') : tSeq (tPar i j (tCons (tLst tNil) (tCons (tC v) tNil))) tz D σ H :=
  ⟨Nat.zero_le _, fun p hp => ⟨.ref p, v, rfl, k p _ hp (g.cell hp) (Cell.mk' g hp)⟩⟩
theorem q_par2 {i j : Nat} {v w : V} {tr : TA} (g : Grow B0 H0 B H) (h : EvA tr σ B (Iss [v, w])) (k : ∀ B' H', Grow B0 H0 B' H' → Grow B H B' H' → tz D ((σ.set i (some v)).set j (some w)) H') : tSeq (tPar i j tr) tz D σ H :=
  h H g.bh _ fun vs B1 H1 g1 e => by
    cases e
    exact ⟨v, w, rfl, k B1 H1 (g.trans g1) g1⟩
theorem evp_slFrom [MonoR R] (h : EvP te σ B (LsOf K R as)) (hn : EvV th σ B (.int (n : Int))) : EvP (tSl (rSlL K) te (tPart th) tNoPart) σ B (LsOf K R (as.drop n)) := fun H bh Q q => h H bh _ fun v B1 H1 g1 ⟨p, xs, e, s, it⟩ => hn.mono g1.b H1 g1.bh _ fun w B2 H2 g2 e2 => by
  subst e
  cases e2
  refine ⟨n, rfl, p, xs, rfl, ex_l (g2.b.trans g2.bh) (sq_of s), fun l hl => ?_⟩
  rw [cut_from]
  exact q _ _ _ ((g1.trans g2).laid hl) ⟨l, _, rfl, upd_same, Mono.up (P := Items R _) (g2.b.trans (Ex.new g2.bh.l (ex_none g2.bh hl))) (items_drop n it)⟩
end
section
variable {P : Program} {w : World} {K : PySem.W.Frag} {mg : Str → Option Value} {base : Heap} {c : Cs} {f : Addr} {fd : FuncData}
abbrev s__law_one_after_other : Stmt := top 48
theorem sc__law_one_after_other : FnScope ["one", "at", "rows", "free", "found", "last", "nth", "row", "arrival", "release", "does"] ["one", "at", "rows", "free"] (defScope s__law_one_after_other) := ⟨rfl, rfl, rfl, by decide +kernel, rfl, by decide +kernel, by decide +kernel⟩
/- slots: 0=one 1=at 2=rows 3=free 4=found 5=last 6=nth 7=row 8=arrival 9=release 10=does -/
theorem ok_law_after (F : Fun K "_law_one_after_other" "_law_one_after_other" s__law_one_after_other f fd) (T : Txt K mg c) : FnOk P w K mg base CX0 1 f fd ["one", "at", "rows", "free"] (Pure (R_lawAfter K)) := by
  refine pure_ok F sc__law_one_after_other (fun B vs P' ⟨ov, rv, at_, free, t, rows, h, _⟩ => by rw [h]; rfl) fun cdv A outer s H0 E hr => ?_
  refine ⟨_, (pss_cons (ps_par (by rfl) sc__law_one_after_other.nd (i := 4) (j := 5) rfl rfl (by decide) rfl rfl (pa_cons (pe_lst pa_nil) (pa_cons pe_non pa_nil)) (by rfl))
        (pss_cons (ps_for PassesOwn.never rfl (pi_enum (by rfl) T.b_enumerate (pa_cons (pe_callB (call_sortedDat hr.units) (by rfl) T.b_sorted (by decide +kernel) (pa_cons (pv 2) pa_nil)) pa_nil)) (pg_tup (by rfl) (pgs_cons (pg_name (i := 6) sc__law_one_after_other.nd rfl (by first | exact Or.inl rfl | exact Or.inr rfl)) (pgs_cons (pg_name (i := 7) sc__law_one_after_other.nd rfl (by first | exact Or.inl rfl | exact Or.inr rfl)) pgs_nil)))
        (pss_cons (ps_set (i := 8) sc__law_one_after_other.nd rfl (by first | exact Or.inl rfl | exact Or.inr rfl) (pe_ifExp (pt_cmpR op_isN (pv 5) pe_non (nomark _)) (pe_op op_sub (pe_ix ix_tup (pv 7) pe_int (fun _ _ => rfl)) (pe_ix ix_tup (pv 0) pe_int (fun _ _ => rfl))) (pe_callB (call_max2 rfl) (by rfl) T.b_max (by decide +kernel) (pa_cons (pe_op op_sub (pe_ix ix_tup (pv 7) pe_int (fun _ _ => rfl)) (pe_ix ix_tup (pv 0) pe_int (fun _ _ => rfl))) (pa_cons (pe_op op_add (pv 5) (pe_ix ix_tup (pv 0) pe_int (fun _ _ => rfl))) pa_nil)))))
        (pss_cons (ps_set (i := 5) sc__law_one_after_other.nd rfl (by first | exact Or.inl rfl | exact Or.inr rfl) (pv 8))
        (pss_cons (ps_par (by rfl) sc__law_one_after_other.nd (i := 9) (j := 10) rfl rfl (by decide) rfl rfl (pa_cons (pe_callB (call_max2 rfl) (by rfl) T.b_max (by decide +kernel) (pa_cons (pe_ix ix_tup (pv 7) pe_int (fun _ _ => rfl)) (pa_cons (pv 8) pa_nil))) (pa_cons (pe_callB (call_min2 rfl) (by rfl) T.b_min (by decide +kernel) (pa_cons (pe_ix ix_tup (pv 7) pe_int (fun _ _ => rfl)) (pa_cons (pe_ix ix_tup (pv 0) pe_int (fun _ _ => rfl)) pa_nil))) pa_nil)) (by rfl))
        (pss_cons (ps_set (i := 3) sc__law_one_after_other.nd rfl (by first | exact Or.inl rfl | exact Or.inr rfl) (pe_op op_add (pe_callB (call_max2 rfl) (by rfl) T.b_max (by decide +kernel) (pa_cons (pv 3) (pa_cons (pv 9) pa_nil))) (pv 10)))
        (pss_one (ps_expr (pe_bm PySem.F.plainAttrs_list PySem.F.slot_list_append PySem.F.type_list_append mt_append (pv 4) (pa_cons (pe_tup (pa_cons (pv 1) (pa_cons (pe_ix ix_tup (pv 0) pe_int (fun _ _ => rfl)) (pa_cons (pv 6) (pa_cons (pv 8) (pa_cons (pv 9) (pa_cons (pe_ix ix_tup (pv 7) pe_int (fun _ _ => rfl)) (pa_cons (pv 10) (pa_cons (pv 3) pa_nil))))))))) pa_nil)))))))))
        (pss_one (ps_ret (pv 4))))), fun B vs P' ⟨ov, rv, at_, free, t, rows, hv, ho, hrs, hl, hP⟩ => ?_⟩
  subst hv hP
  refine fun H bh D r n => q_parLC (σ := [some ov, some (.int at_), some rv, some (.int free), none, none, none, none, none, none, none]) (Grow.refl bh) fun l H1 nl g1 c1 => ?_
  have sl := srt_len p3D rows
  have ixo : ∀ (B' : Hp) (σ : L2.St) (n : Nat) (d : PyData), Ex B B' → σ[0]? = some (some ov) → ([.str t.name, .int t.rank, .int t.gap, .int t.most, .int t.due, .int t.wait, .tuple []] : List PyData)[n]? = some d → EvD K (tOp (rIxT K) (tVar 0) (tC (.int (n : Nat)))) σ B' d := fun B' σ n d e hs hn => evd_ixT (evp_var (P := fun B w => Dp K B w (oneD t)) (i := 0) hs (dp_up e ho)) evv_c hn
  refine q_forI (σ := [some ov, some (.int at_), some rv, some (.int free), some (.ref l), some .non, none, none, none, none, none]) (R := EnR K (DR K p3D)) (evi_enum (evp_sorted (evp_var (i := 2) rfl hrs) (alike_p3 _) (sortable_p3 _) (by omega) fun b _ => depth_p3 b)) g1.bh
    (fun i σ' B' H' => ∃ (last : Option Int) (fr : Int) (ys : List V) (done : List LJ) (y6 y7 y8 y9 y10 : Option V), σ' = [some ov, some (.int at_), some rv, some (.int fr), some (.ref l), some (oV last), y6, y7, y8, y9, y10] ∧ Grow B H B' H' ∧ Cell H B' H' l (.lst ys) ∧ Items (DR K ljD) done B' ys ∧ done.length = i ∧
      done ++ loGo t at_ last i fr ((srt p3D rows).drop i) = loOf t at_ rows free) (fun B2 H2 g2 => ⟨none, free, [], [], none, none, none, none, none, rfl, g1.trans g2, c1.grow g2, .nil, rfl, rfl⟩) ?_ ?_
  · rintro i ⟨q, j⟩ vq σ' B' H' B2 H2 eb bh' hi ⟨last, fr, ys, done, y6, y7, y8, y9, y10, rfl, gr, cl, it, hdl, hd⟩ g2 ⟨Tq, x, rfl, sT, hx⟩
    have zi : j = i ∧ (srt p3D rows)[i]? = some q := by
      rw [List.getElem?_zipIdx] at hi
      cases ha : (srt p3D rows)[i]? with
      | none => rw [ha] at hi; cases hi
      | some a => rw [ha] at hi; cases hi; exact ⟨by simp, rfl⟩
    obtain ⟨rfl, hq⟩ := zi
    have hjl : j < (srt p3D rows).length := (List.getElem?_eq_some_iff.mp hq).1
    have gr2 := gr.trans g2
    have cl2 := cl.grow g2
    have it2 := Mono.up (P := Items (DR K ljD) done) g2.b it
    have e2 := eb.trans g2.b
    have hx : Dp K B2 x (p3D q) := hx
    have ixr : ∀ (B' : Hp) (σ : L2.St) (n : Nat) (d : PyData), Ex B2 B' → σ[7]? = some (some x) → ([.int q.1, .int q.2.1, .int q.2.2] : List PyData)[n]? = some d → EvD K (tOp (rIxT K) (tVar 7) (tC (.int (n : Nat)))) σ B' d := fun B' σ n d e hs hn => evd_ixT (evp_var (P := fun B w => Dp K B w (p3D q)) (i := 7) hs (dp_up e hx)) evv_c hn
    refine evg_tup (B := B2) sT rfl (evgs_cons evg_name (evgs_cons evg_name evgs_nil)) H2 g2.bh _ ?_
    -- arrival
    refine q_asg (σ := [some ov, some (.int at_), some rv, some (.int fr), some (.ref l), some (oV last), some (.int (j : Nat)), some x, y8, y9, y10]) (Pv := Is (.int (arrOf t last q.1))) gr2 (by
      cases last with
      | none => exact evv_cast (evv_if (b := true) (y := .non) (evt_test (evv_op (x := .non) (evv_var (i := 5) rfl) evv_c fun _ _ => evr_now (fun H _ Q q => ⟨rfl, q⟩) rfl)) (fun _ => evv_I0 (evv_ofD_int (ixr B2 _ 0 _ (.refl g2.bh.l) rfl rfl)) (evv_ofD_int (ixo B2 _ 5 _ e2 rfl rfl))) fun h => by cases h) rfl
      | some la => exact evv_cast (evv_if (b := false) (x := .non) (evt_test (evv_op (x := .int la) (evv_var (i := 5) rfl) evv_c fun _ _ => evr_now (fun H _ Q q => ⟨rfl, q⟩) rfl)) (fun h => by cases h) fun _ => evv_max2 (evv_I0 (evv_ofD_int (ixr B2 _ 0 _ (.refl g2.bh.l) rfl rfl)) (evv_ofD_int (ixo B2 _ 5 _ e2 rfl rfl))) (evv_I0 (i := la) (evv_var (i := 5) rfl) (evv_ofD_int (ixo B2 _ 2 _ e2 rfl rfl)))) rfl) fun w3 B3 H3 g3 g3' p3 => ?_
    cases p3
    refine q_asg (σ := [some ov, some (.int at_), some rv, some (.int fr), some (.ref l), some (oV last), some (.int (j : Nat)), some x, some (.int (arrOf t last q.1)), y9, y10]) (Pv := Is (.int (arrOf t last q.1))) g3 (evv_var (i := 8) rfl) fun w4 B4 H4 g4 g4' p4 => ?_
    cases p4
    have e4 : Ex B2 B4 := g3'.b.trans g4'.b
    -- release, does
    refine q_par2 (v := .int (max q.1 (arrOf t last q.1))) (w := .int (min q.2.1 t.most)) (σ := [some ov, some (.int at_), some rv, some (.int fr), some (.ref l), some (.int (arrOf t last q.1)), some (.int (j : Nat)), some x, some (.int (arrOf t last q.1)), y9, y10]) g4 (evas_cons (evv_max2 (evv_ofD_int (ixr B4 _ 0 _ e4 rfl rfl)) (evv_var (i := 8) rfl)) (evas_cons (evv_min2 (evv_ofD_int (ixr B4 _ 1 _ e4 rfl rfl)) (evv_ofD_int (ixo B4 _ 3 _ (e2.trans e4) rfl rfl))) eva_nil)) fun B5 H5 g5 g5' => ?_
    have e5 := e4.trans g5'.b
    -- free
    refine q_asg (σ := [some ov, some (.int at_), some rv, some (.int fr), some (.ref l), some (.int (arrOf t last q.1)), some (.int (j : Nat)), some x, some (.int (arrOf t last q.1)), some (.int (max q.1 (arrOf t last q.1))), some (.int (min q.2.1 t.most))]) (Pv := Is (.int (max fr (max q.1 (arrOf t last q.1)) + min q.2.1 t.most))) g5 (evv_add (evv_max2 (evv_var (i := 3) rfl) (evv_var (i := 9) rfl)) (evv_var (i := 10) rfl)) fun w6 B6 H6 g6 g6' p6 => ?_
    cases p6
    have cl6 := ((cl2.grow (g3'.trans g4')).grow g5').grow g6'
    have e6 := e5.trans g6'.b
    have it6 := Mono.up (P := Items (DR K ljD) done) e6 it2
    have hlen : ys.length = j := (Paired.length it).trans hdl
    refine s_app (σ := [some ov, some (.int at_), some rv, some (.int (max fr (max q.1 (arrOf t last q.1)) + min q.2.1 t.most)), some (.ref l), some (.int (arrOf t last q.1)), some (.int (j : Nat)), some x, some (.int (arrOf t last q.1)), some (.int (max q.1 (arrOf t last q.1))), some (.int (min q.2.1 t.most))]) g6 cl6 (j := 4) rfl (Pv := fun B' w => Dp K B' w (ljD ⟨at_, t.name, j, arrOf t last q.1, max q.1 (arrOf t last q.1), q.2.1, min q.2.1 t.most, max fr (max q.1 (arrOf t last q.1)) + min q.2.1 t.most⟩))
      (evd_tup (K := K) (ds := [.int at_, .str t.name, .int (j : Nat), .int (arrOf t last q.1), .int (max q.1 (arrOf t last q.1)), .int q.2.1, .int (min q.2.1 t.most), .int (max fr (max q.1 (arrOf t last q.1)) + min q.2.1 t.most)]) (evds_cons (evd_int (evv_var (i := 1) rfl)) (evds_cons (ixo B6 _ 0 _ (e2.trans e6) rfl rfl) (evds_cons (evd_int (evv_var (i := 6) rfl)) (evds_cons (evd_int (evv_var (i := 8) rfl)) (evds_cons (evd_int (evv_var (i := 9) rfl)) (evds_cons (ixr B6 _ 1 _ e6 rfl rfl) (evds_cons (evd_int (evv_var (i := 10) rfl)) (evds_cons (evd_int (evv_var (i := 3) rfl)) evds_nil)))))))) (by simp)) (by omega) fun w7 B7 H7 e7 _ g7 c7 p7 => ?_
    refine ⟨B7, g2.b.trans (e6.trans e7), g7.bh, some (arrOf t last q.1), _, ys ++ [w7], done ++ [⟨at_, t.name, j, arrOf t last q.1, max q.1 (arrOf t last q.1), q.2.1, min q.2.1 t.most, max fr (max q.1 (arrOf t last q.1)) + min q.2.1 t.most⟩], _, _, _, _, _, rfl, g7, c7, ?_, by rw [List.length_append, hdl]; rfl, ?_⟩
    · exact paired_app (Mono.up (P := Items (DR K ljD) done) e7 it6) (.cons p7 .nil)
    · rw [← hd, List.append_assoc]
      have e1 : (srt p3D rows).drop j = q :: (srt p3D rows).drop (j + 1) := by
        rw [List.drop_eq_getElem_cons hjl, (List.getElem?_eq_some_iff.mp hq).2]
      rw [e1]
      rfl
  · rintro σ' B' H' eb bh' ⟨last, fr, ys, done, y6, y7, y8, y9, y10, rfl, gr, cl, it, hdl, hd⟩
    have hz : ((srt p3D rows).zipIdx).length = (srt p3D rows).length := by simp
    rw [hz, List.drop_length] at hd
    have hd' : done = loOf t at_ rows free := by
      rw [← hd]
      exact (List.append_nil _).symm
    refine ⟨_, rfl, r _ _ _ (gr.freeze cl) ⟨l, ys, rfl, upd_same, ?_⟩⟩
    rw [← hd']
    exact Mono.up (P := Items (DR K ljD) done) (Ex.new gr.bh.l cl.nb) it
abbrev s__law_gone_on : Stmt := top 50
theorem sc__law_gone_on : FnScope ["one", "at", "rows", "begun", "asked", "mine", "jobs", "row", "job"] ["one", "at", "rows", "begun", "asked"] (defScope s__law_gone_on) := ⟨rfl, rfl, rfl, by decide +kernel, rfl, by decide +kernel, by decide +kernel⟩
/- slots: 0=one 1=at 2=rows 3=begun 4=asked 5=mine 6=jobs 7=row 8=job -/
theorem ok_law_gone (F : Fun K "_law_gone_on" "_law_gone_on" s__law_gone_on f fd) (T : Txt K mg c) (G__law_one_after_other : Gf P w K mg base 1 "_law_one_after_other" ["one", "at", "rows", "free"] [] (Pure (R_lawAfter K))) : FnOk P w K mg base CX0 2 f fd ["one", "at", "rows", "begun", "asked"] (Pure (R_lawGone K)) := by
  refine pure_ok F sc__law_gone_on (fun B vs P' ⟨ov, rv, at_, begun, asked, t, rows, h, _⟩ => by rw [h]; rfl) fun cdv A outer s H0 E hr => ?_
  refine ⟨_, (pss_cons (ps_set (i := 5) sc__law_gone_on.nd rfl (by first | exact Or.inl rfl | exact Or.inr rfl) (pe_callB (call_sortedDat hr.units) (by rfl) T.b_sorted (by decide +kernel) (pa_cons (pe_lc (own := [("row", 7)]) rfl sc__law_gone_on.nd (pi_list (pv 2)) (blkOk_by (N := ["one", "at", "rows", "begun", "asked", "mine", "jobs", "row", "job"]) (sc := defScope s__law_gone_on) (by decide +kernel)) (fun _ _ _ _ _ => (pg_name (i := 7) sc__law_gone_on.nd rfl (by first | exact Or.inl rfl | exact Or.inr rfl))) (fun _ _ _ _ _ => pts_nil) (fun _ _ _ _ _ => (pe_op (op_catTK (K := K) rfl) (pe_tup (pa_cons (pe_callB (call_max2 rfl) (by rfl) T.b_max (by decide +kernel) (pa_cons (pe_ix (ix_tupK (K := K) rfl) (pv 7) pe_int (fun _ _ => rfl)) (pa_cons (pv 3) pa_nil))) pa_nil)) (pe_slice (sl_tupK (K := K) rfl) (pv 7) (po_some pe_int) po_none)))) pa_nil)))
        (pss_cons (ps_set (i := 6) sc__law_gone_on.nd rfl (by first | exact Or.inl rfl | exact Or.inr rfl) (pe_g G__law_one_after_other (hr.mono (by decide)) (by rfl) (pa_cons (pv 0) (pa_cons (pv 1) (pa_cons (pe_lc (own := [("row", 7)]) rfl sc__law_gone_on.nd (pi_list (pv 5)) (blkOk_by (N := ["one", "at", "rows", "begun", "asked", "mine", "jobs", "row", "job"]) (sc := defScope s__law_gone_on) (by decide +kernel)) (fun _ _ _ _ _ => (pg_name (i := 7) sc__law_gone_on.nd rfl (by first | exact Or.inl rfl | exact Or.inr rfl))) (fun _ _ _ _ _ => pts_one (pt_cmpR op_lt (pe_ix (ix_tupK (K := K) rfl) (pv 7) pe_int (fun _ _ => rfl)) (pv 4) (nomark _))) (fun _ _ _ _ _ => (pv 7))) (pa_cons (pv 3) pa_nil))))))
        (pss_cons (ps_setLc (i := 6) (own := [("job", 8)]) rfl sc__law_gone_on.nd rfl rfl (sw_true rfl rfl rfl (by decide +kernel)) (pi_list (pv 6)) (blkOk_by (N := ["one", "at", "rows", "begun", "asked", "mine", "jobs", "row", "job"]) (sc := defScope s__law_gone_on) (by decide +kernel)) (fun _ _ _ _ _ => (pg_name (i := 8) sc__law_gone_on.nd rfl (by first | exact Or.inl rfl | exact Or.inr rfl))) (fun _ _ _ _ _ => pts_one (pt_cmpR op_le (pe_ix (ix_tupK (K := K) rfl) (pv 8) pe_int (fun _ _ => rfl)) (pv 4) (nomark _))) (fun _ _ _ _ _ => (pv 8)))
        (pss_one (ps_ret (pe_tup (pa_cons (pv 6) (pa_cons (pe_callB (cr_max rfl) (by rfl) T.b_max (by decide +kernel) (pa_cons (pe_op op_cat (pe_lc (own := [("job", 8)]) rfl sc__law_gone_on.nd (pi_list (pv 6)) (blkOk_by (N := ["one", "at", "rows", "begun", "asked", "mine", "jobs", "row", "job"]) (sc := defScope s__law_gone_on) (by decide +kernel)) (fun _ _ _ _ _ => (pg_name (i := 8) sc__law_gone_on.nd rfl (by first | exact Or.inl rfl | exact Or.inr rfl))) (fun _ _ _ _ _ => pts_nil) (fun _ _ _ _ _ => (pe_ix (ix_tupK (K := K) rfl) (pv 8) pe_int (fun _ _ => rfl)))) (pe_lst (pa_cons (pv 4) pa_nil))) pa_nil)) (pa_cons (pe_slice sl_list (pv 5) (po_some (pe_callB (call_len) (by rfl) T.b_len (by decide +kernel) (pa_cons (pv 6) pa_nil))) po_none) pa_nil))))))))), fun B vs P' ⟨ov, rv, at_, begun, asked, t, rows, hv, ho, hrs, hl, hP⟩ => ?_⟩
  subst hv hP
  refine fun H bh D r n => ?_
  have ml : (mineL begun rows).length = rows.length := by unfold mineL; rw [srt_len, List.length_map]
  -- mine
  refine q_asg (σ := [some ov, some (.int at_), some rv, some (.int begun), some (.int asked), none, none, none, none]) (Pv := LsOf K (DR K p3D) (mineL begun rows)) (Grow.refl bh) (evp_sorted (evp_lcA (K := K) (R := DR K p3D) (S := DR K p3D) (fun q : W3i => (max q.1 begun, q.2.1, q.2.2)) (evi_list (evp_var (i := 2) rfl hrs)) (by omega) fun B' x q e hq hx => ⟨_, evg_name, rfl, ?_⟩) (alike_p3 _) (sortable_p3 _) (by rw [List.length_map]; omega) fun b _ => depth_p3 b) fun mv B1 H1 g1 g1' hm => ?_
  · have hx : Dp K B' x (.tuple [.int q.1, .int q.2.1, .int q.2.2]) := hx
    refine evd_catT (ds := [.int (max q.1 begun)]) (es := [.int q.2.1, .int q.2.2]) (evd_tup (evds_cons (evd_int (evv_max2 (evv_ofD_int (evd_ixT (n := 0) (d := .int q.1) (evp_var (P := fun B w => Dp K B w (.tuple [.int q.1, .int q.2.1, .int q.2.2])) (i := 7) rfl hx) evv_c rfl)) (evv_var (i := 3) rfl))) evds_nil) (by simp)) (evd_drop1 (evp_var (P := fun B w => Dp K B w (.tuple [.int q.1, .int q.2.1, .int q.2.2])) (i := 7) rfl hx)) (by simp) (by simp) (by simp)
  have fl : ((mineL begun rows).filter fun q => decide (q.1 < asked)).length ≤ 1000 := Nat.le_trans (List.length_filter_le _ _) (by omega)
  have e1 := g1'.b
  -- jobs
  refine q_asg (σ := [some ov, some (.int at_), some rv, some (.int begun), some (.int asked), some mv, none, none, none]) (Pv := LsOf K (DR K ljD) (loOf t at_ ((mineL begun rows).filter fun q => decide (q.1 < asked)) begun)) g1 (evp_call (A := ConsP (Is ov) (ConsP (Is (.int at_)) (ConsP (LsOf K (DR K p3D) ((mineL begun rows).filter fun q => decide (q.1 < asked))) (ConsP (Is (.int begun)) (Iss []))))) (eva_cons (evv_var (i := 0) rfl) fun B2 e2 => eva_cons (evv_var (i := 1) rfl) fun B3 e3 => eva_cons (P := LsOf K (DR K p3D) ((mineL begun rows).filter fun q => decide (q.1 < asked))) (EvP.imp (evp_lcI (K := K) (R := DR K p3D) (S := DR K p3D) (fun q : W3i => decide (q.1 < asked)) (fun q : W3i => q) (evi_list (evp_var (i := 5) rfl (Mono.up (P := LsOf K (DR K p3D) (mineL begun rows)) (e2.trans e3) hm))) (by omega) fun B' x q e hq hx => ⟨_, evg_name, rfl, evt_test (evv_I0 (evv_ofD_int (evd_ixT (n := 0) (d := .int q.1) (evp_var (P := fun B w => Dp K B w (p3D q)) (i := 7) rfl hx) evv_c rfl)) (evv_var (i := 4) rfl)), fun _ => evp_var (i := 7) rfl hx⟩) fun _ _ _ h => by rw [List.map_id'] at h; exact h) fun B4 e4 => eva_cons (evv_var (i := 3) rfl) fun B5 e5 => eva_nil) fun B2 vs e2 ⟨_, _, h1, a1, ⟨_, _, h2, a2, ⟨u, _, h3, a3, ⟨_, _, h4, a4, h5⟩⟩⟩⟩ => ?_) fun jv B2 H2 g2 g2' hj => ?_
  · cases h5
    cases a4
    cases a2
    cases a1
    subst h4
    subst h3
    subst h2
    subst h1
    exact ⟨ov, u, at_, begun, t, _, rfl, dp_up (e1.trans e2) ho, a3, fl, rfl⟩
  have jl : (loOf t at_ ((mineL begun rows).filter fun q => decide (q.1 < asked)) begun).length ≤ 1000 := by
    unfold loOf
    rw [loGo_len, srt_len]
    exact fl
  have ixj : ∀ (B' : Hp) (σ : L2.St) (x : V) (j : LJ) (n : Nat) (d : PyData), DR K ljD B' x j → σ[8]? = some (some x) → ([.int j.at_, .str j.name, .int (j.nth : Nat), .int j.arr, .int j.rel, .int j.work, .int j.does, .int j.fin] : List PyData)[n]? = some d → EvD K (tOp (rIxT K) (tVar 8) (tC (.int (n : Nat)))) σ B' d := fun B' σ x j n d hx hs hn => evd_ixT (evp_var (P := fun B w => Dp K B w (ljD j)) (i := 8) hs hx) evv_c hn
  refine q_asg (σ := [some ov, some (.int at_), some rv, some (.int begun), some (.int asked), some mv, some jv, none, none]) (Pv := LsOf K (DR K ljD) (goneJobs t at_ rows begun asked)) g2 (EvP.imp (evp_lcI (K := K) (R := DR K ljD) (S := DR K ljD) (fun j : LJ => decide (j.arr ≤ asked)) (fun j : LJ => j) (evi_list (evp_var (i := 6) rfl hj)) (by omega) fun B' x j e hq hx => ⟨_, evg_name, rfl, evt_test (evv_I0 (evv_ofD_int (ixj B' _ x j 3 _ hx rfl rfl)) (evv_var (i := 4) rfl)), fun _ => evp_var (i := 8) rfl hx⟩) fun _ _ _ h => by rw [List.map_id'] at h; exact h) fun jv2 B3 H3 g3 g3' hj2 => ?_
  have jl2 : (goneJobs t at_ rows begun asked).length ≤ 1000 := Nat.le_trans (List.length_filter_le _ _) jl
  have e3 := (e1.trans g2'.b).trans g3'.b
  have hm3 : LsOf K (DR K p3D) (mineL begun rows) B3 mv := Mono.up (P := LsOf K (DR K p3D) (mineL begun rows)) (g2'.b.trans g3'.b) hm
  refine (evp_tup (K := K) (σ := [some ov, some (.int at_), some rv, some (.int begun), some (.int asked), some mv, some jv2, none, none]) (A := ConsP (LsOf K (DR K ljD) (goneJobs t at_ rows begun asked)) (ConsP (Is (.int (goneFin (goneJobs t at_ rows begun asked) asked))) (ConsP (LsOf K (DR K p3D) (goneLeft (goneJobs t at_ rows begun asked) begun rows)) (Iss [])))) (eva_cons (P := LsOf K (DR K ljD) (goneJobs t at_ rows begun asked)) (evp_var (i := 6) rfl hj2) fun B4 e4 => eva_cons (P := Is (.int (goneFin (goneJobs t at_ rows begun asked) asked))) ?_ fun B5 e5 => eva_cons (P := LsOf K (DR K p3D) (goneLeft (goneJobs t at_ rows begun asked) begun rows)) ?_ fun B6 e6 => eva_nil) fun B' vs ⟨_, _, h1, _, ⟨_, _, h2, _, ⟨_, _, h3, _, h4⟩⟩⟩ => by cases h4; subst h3; subst h2; subst h1; exact (by decide : 3 ≤ sizeLine)) H3 g3.bh _ fun tv B4 H4 g4 ht => r tv B4 H4 (g3.trans g4) ht
  · have hfin : EvP (tLc (iList K (tVar 6)) (gName 8) tYes (tOp (rIxT K) (tVar 8) (tC (.int 7))) [8]) [some ov, some (.int at_), some rv, some (.int begun), some (.int asked), some mv, some jv2, none, none] B4 (LsOf K (VR V.int) ((goneJobs t at_ rows begun asked).map fun j => j.fin)) := by
      have h1 := evp_lcA (K := K) (g := gName 8) (te := tOp (rIxT K) (tVar 8) (tC (.int 7))) (vs := [8]) (σ := [some ov, some (.int at_), some rv, some (.int begun), some (.int asked), some mv, some jv2, none, none]) (R := DR K ljD) (S := VR V.int) (fun j : LJ => j.fin) (evi_list (evp_var (i := 6) rfl (Mono.up (P := LsOf K (DR K ljD) (goneJobs t at_ rows begun asked)) e4 hj2))) (by omega) fun B' x j e hq hx => ⟨_, evg_name, rfl, evv_ofD_int (ixj B' _ x j 7 _ hx rfl rfl)⟩
      refine EvP.imp h1 fun B' v e ⟨p, xs, q1, q2, q3⟩ => ⟨p, xs, q1, q2, ?_⟩
      have := items_vals (f := V.int) (as := (goneJobs t at_ rows begun asked).map fun j => j.fin) q3
      subst this
      exact items_vr
    exact evv_maxI (by simp) (evp_cat (R := VR V.int) (as := (goneJobs t at_ rows begun asked).map fun j => j.fin) (bs := [asked]) hfin (evp_lstV (fe := V.int) (as := [asked]) (evas_cons (evv_var (i := 4) rfl) eva_nil) (by simp)) (by rw [List.length_map]; simp; omega))
  · exact evp_slFrom (n := (goneJobs t at_ rows begun asked).length) (evp_var (i := 5) rfl (Mono.up (P := LsOf K (DR K p3D) (mineL begun rows)) (e4.trans e5) hm3)) (evv_len (Pa := LsOf K (DR K ljD) (goneJobs t at_ rows begun asked)) (evp_var (i := 6) rfl (Mono.up (P := LsOf K (DR K ljD) (goneJobs t at_ rows begun asked)) (e4.trans e5) hj2)) fun B' v e h H x => lenV_seq x (.inl h))
end
end K7

set_option Elab.async false
set_option linter.all false
set_option maxRecDepth 100000
set_option maxHeartbeats 4000000
namespace K7
open PySem PySem.Spec PySem.W L2 Pw
open PyProof.Rows hiding St
variable [Tbs]
/-! ### sorted rows -/
section
variable {β : Type} {enc : β → PyData} {xs ys : List β}
def Inj (enc : β → PyData) : Prop := ∀ a b, keyToks (enc a) = keyToks (enc b) → a = b
theorem srt_pairwise : (srt enc xs).Pairwise fun a b => dataLe false enc a b = true :=
  List.pairwise_mergeSort (fun a b c h1 h2 => (sortLe_total (listOrd itemOrd) false (fun b => keyToks (enc b))).trans a b c h1 h2) (fun a b => by
    rcases (sortLe_total (listOrd itemOrd) false (fun b => keyToks (enc b))).total a b with h | h
    · rw [Bool.or_eq_true]; exact .inl h
    · rw [Bool.or_eq_true]; exact .inr h) xs
theorem le_anti (I : Inj enc) {a b : β} (h1 : dataLe false enc a b = true) (h2 : dataLe false enc b a = true) : a = b := by
  refine I a b (lex_total (O := itemOrd) _ _ ?_ ?_)
  · have : (!lexLt itemOrd (keyToks (enc a)) (keyToks (enc b))) = true := h2
    simpa using this
  · have : (!lexLt itemOrd (keyToks (enc b)) (keyToks (enc a))) = true := h1
    simpa using this
theorem sorted_eq (I : Inj enc) (p : xs.Perm ys) (h1 : xs.Pairwise fun a b => dataLe false enc a b = true) (h2 : ys.Pairwise fun a b => dataLe false enc a b = true) : xs = ys := p.eq_of_pairwise (fun _ _ _ _ a b => le_anti I a b) h1 h2
theorem srt_perm : (srt enc xs).Perm xs := List.mergeSort_perm _ _
theorem srt_congr (I : Inj enc) (p : xs.Perm ys) : srt enc xs = srt enc ys := sorted_eq I ((srt_perm.trans p).trans srt_perm.symm) srt_pairwise srt_pairwise
theorem srt_self (I : Inj enc) (h : xs.Pairwise fun a b => dataLe false enc a b = true) : srt enc xs = xs := sorted_eq I srt_perm srt_pairwise h
theorem srt_filter (I : Inj enc) (p : β → Bool) : srt enc (xs.filter p) = (srt enc xs).filter p := sorted_eq I (srt_perm.trans (srt_perm.symm.filter p)) srt_pairwise (srt_pairwise.filter p)
end
theorem inj_p3 : Inj p3D := fun a b h => by
  obtain ⟨a1, a2, a3⟩ := a
  obtain ⟨b1, b2, b3⟩ := b
  simp only [p3D, keyToks, keyToksAll, List.cons_append, List.nil_append, List.cons.injEq, Sum.inl.injEq, and_true, true_and] at h
  obtain ⟨h1, h2, h3⟩ := h
  subst h1 h2 h3
  rfl
theorem str_ext {a b : Str} (h : a.cps.toList = b.cps.toList) : a = b := by
  obtain ⟨⟨a⟩⟩ := a
  obtain ⟨⟨b⟩⟩ := b
  have : a = b := h
  rw [this]
theorem inj_w3 : Inj wD := fun a b h => by
  obtain ⟨a1, a2, a3⟩ := a
  obtain ⟨b1, b2, b3⟩ := b
  simp only [wD, keyToks, keyToksAll, List.cons_append, List.nil_append, List.cons.injEq, Sum.inl.injEq, Sum.inr.injEq, and_true, true_and] at h
  obtain ⟨h1, h2, h3⟩ := h
  subst h1 h3
  rw [str_ext h2]
theorem inj_pair : Inj pairD := fun a b h => by
  obtain ⟨a1, a2⟩ := a
  obtain ⟨b1, b2⟩ := b
  simp only [pairD, keyToks, keyToksAll, List.cons_append, List.nil_append, List.cons.injEq, Sum.inl.injEq, and_true, true_and] at h
  obtain ⟨h1, h2⟩ := h
  subst h1 h2
  rfl
theorem inj_int : Inj PyData.int := fun a b h => by
  simp only [keyToks, List.cons.injEq, Sum.inl.injEq, and_true] at h
  exact h
theorem le_p3 {a b : W3i} (h : dataLe false p3D a b = true) : a.1 < b.1 ∨ (a.1 = b.1 ∧ a.2.1 ≤ b.2.1) := by
  obtain ⟨a1, a2, a3⟩ := a
  obtain ⟨b1, b2, b3⟩ := b
  have h : (!dataLt (p3D (b1, b2, b3)) (p3D (a1, a2, a3))) = true := h
  unfold p3D at h
  rw [dataLt_tuple, dataLt_cons (by simp [alike]), dataLt_cons (by simp [alike]), dataLt_int, dataLt_int] at h
  simp only [PyData.eqv, beq_iff_eq] at h
  show a1 < b1 ∨ (a1 = b1 ∧ a2 ≤ b2)
  by_cases h1 : b1 = a1
  · rw [if_pos h1] at h
    by_cases h2 : b2 = a2
    · exact .inr ⟨h1.symm, by omega⟩
    · rw [if_neg h2] at h
      have : ¬ b2 < a2 := by simpa using h
      exact .inr ⟨h1.symm, by omega⟩
  · rw [if_neg h1] at h
    have : ¬ b1 < a1 := by simpa using h
    exact .inl (by omega)
theorem p3_hours {xs : List W3i} (h : xs.Pairwise fun a b => dataLe false p3D a b = true) : xs.Pairwise fun a b => a.1 ≤ b.1 := h.imp fun z => by
  have := le_p3 z
  omega
theorem p3_pairs {xs : List W3i} (h : xs.Pairwise fun a b => dataLe false p3D a b = true) : (xs.map fun q => (q.1, q.2.1)).Pairwise fun a b => dataLe false pairD a b = true := by
  rw [List.pairwise_map]
  refine h.imp fun {a b} z => ?_
  have := le_p3 z
  rw [show dataLe false pairD = _ from dataLe_ii (fun p : Int × Int => p.1) (fun p : Int × Int => p.2)]
  exact decide_eq_true this
end K7

set_option Elab.async false
set_option linter.all false
set_option maxRecDepth 100000
set_option maxHeartbeats 4000000
namespace K7
open PySem PySem.Spec PySem.W L2 Pw
open PyProof.Rows hiding St
variable [Tbs]
/-! ### jobs of one rank, one behind the other: what the machine comes to -/
structure Line (ρ : Int) (js : List Jb) : Prop where
  fresh : ∀ j ∈ js, j.ticks = 0 ∧ j.ended = none ∧ 1 ≤ goalOf true j
  rels : js.Pairwise fun a b => a.r.rel ≤ b.r.rel
  nums : js.Pairwise fun a b => a.r.num < b.r.num
  rank : ∀ j ∈ js, j.t.rank = ρ
def finJ (j : Jb) (f : Int) : Jb := { j with ticks := goalOf true j, ended := some f }
def zipFin : Int → List Jb → List Jb
  | _, [] => []
  | free, j :: r => finJ j (max free j.r.rel + goalOf true j) :: zipFin (max free j.r.rel + goalOf true j) r
theorem Line.tail {ρ : Int} {j : Jb} {js : List Jb} (h : Line ρ (j :: js)) : Line ρ js := ⟨fun x hx => h.fresh x (List.mem_cons_of_mem _ hx), (List.pairwise_cons.mp h.rels).2, (List.pairwise_cons.mp h.nums).2, fun x hx => h.rank x (List.mem_cons_of_mem _ hx)⟩
structure AtW (ρ : Int) (res : List Jb) (w : Ws) (done todo : List Jb) (free : Int) : Prop where
  res : done ++ zipFin free todo = res
  line : Line ρ todo
  old : ∀ d ∈ done, d.ended ≠ none ∧ d.r.rel ≤ w.hour
  st : (todo = [] ∧ w.js = done) ∨ ∃ j r τ, todo = j :: r ∧ w.js = done ++ ({ j with ticks := τ } :: r) ∧ 0 ≤ τ ∧ τ < goalOf true j ∧ ((τ = 0 ∧ free ≤ w.hour ∧ w.hour ≤ max free j.r.rel) ∨ w.hour = max free j.r.rel + τ)
theorem readyAt_eq (js : List Jb) (h : Int) : readyAt js h = (List.range js.length).filter fun i => (js[i]?).elim false (isReady h) := by
  unfold readyAt
  refine List.filter_congr fun i _ => ?_
  cases js[i]? <;> rfl
theorem ready_nil {js : List Jb} {h : Int} (k : ∀ j ∈ js, isReady h j = false) : readyAt js h = [] := by
  rw [readyAt_eq, List.filter_eq_nil_iff]
  intro i hi
  cases e : js[i]? with
  | none => simp
  | some j =>
    show ¬ isReady h j = true
    rw [k j (List.mem_of_getElem? e)]
    simp
theorem not_ready {h : Int} {j : Jb} (k : j.ended ≠ none ∨ h < j.r.rel) : isReady h j = false := by
  unfold isReady
  rcases k with k | k
  · rw [decide_eq_false k, Bool.and_false]
  · rw [decide_eq_false (by omega), Bool.false_and]
theorem ready_cons {done r : List Jb} {j : Jb} {h : Int} (k : ∀ d ∈ done, d.ended ≠ none) (hj : isReady h j = true) : ∃ rest, readyAt (done ++ j :: r) h = done.length :: rest ∧ ∀ i ∈ rest, ∃ m, i = done.length + (m + 1) ∧ m < r.length := by
  rw [readyAt_eq]
  have e : List.range (done ++ j :: r).length = List.range done.length ++ (done.length :: (List.range r.length).map fun m => done.length + (m + 1)) := by
    rw [List.length_append, List.length_cons, List.range_add, List.range_succ_eq_map, List.map_cons, List.map_map]
    rfl
  rw [e, List.filter_append]
  have e1 : ((List.range done.length).filter fun i => ((done ++ j :: r)[i]?).elim false (isReady h)) = [] := by
    rw [List.filter_eq_nil_iff]
    intro i hi
    have hl := List.mem_range.mp hi
    rw [List.getElem?_append_left hl, List.getElem?_eq_getElem hl]
    show ¬ isReady h done[i] = true
    rw [not_ready (.inl (k _ (List.getElem_mem hl)))]
    simp
  rw [e1, List.nil_append, List.filter_cons]
  have e2 : ((done ++ j :: r)[done.length]?).elim false (isReady h) = true := by
    rw [List.getElem?_append_right (Nat.le_refl _), Nat.sub_self]
    exact hj
  rw [if_pos e2]
  refine ⟨_, rfl, fun i hi => ?_⟩
  obtain ⟨m, hm, rfl⟩ := List.mem_map.mp (List.mem_filter.mp hi).1
  exact ⟨m, rfl, List.mem_range.mp hm⟩
theorem argBest_zero {bt : Nat → Nat → Bool} : ∀ k, (∀ i, 0 < i → i ≤ k → bt i 0 = false) → argBest bt k = 0
  | 0, _ => rfl
  | k + 1, h => by
    have ih := argBest_zero k fun i a b => h i a (by omega)
    show (if bt (k + 1) (argBest bt k) then k + 1 else argBest bt k) = 0
    rw [ih, h (k + 1) (by omega) (Nat.le_refl _)]
    rfl
theorem urg_not {a b : Jb} (hr : a.t.rank = b.t.rank) (hn : b.r.num < a.r.num) : dataLt (urgD a) (urgD b) = false := by
  have e1 : ∀ x : Int, PyData.eqv (.int x) (.int x) = true := fun x => by simp [PyData.eqv]
  have e3 : ¬ PyData.eqv (.int (a.r.num : Nat)) (.int (b.r.num : Nat)) = true := by simp [PyData.eqv]; omega
  unfold urgD
  rw [dataLt_tuple, dataLt_cons (by simp [alike]), dataLt_cons (by simp [alike]), dataLt_cons (by simp [alike]), hr, if_pos (e1 _), if_pos (e1 _), if_neg e3, dataLt_int, decide_eq_false (by omega)]
theorem pick_first {ρ : Int} {done r : List Jb} {j : Jb} {h : Int} (k : ∀ d ∈ done, d.ended ≠ none) (hj : isReady h j = true) (hr : ∀ x ∈ r, x.t.rank = j.t.rank ∧ j.r.num < x.r.num) : pick (done ++ j :: r) h = done.length := by
  obtain ⟨rest, e, hrest⟩ := ready_cons (r := r) k hj
  unfold pick
  rw [e]
  rw [argBest_zero]
  · rfl
  · intro i i0 ik
    rw [List.length_cons, Nat.add_sub_cancel] at ik
    show dataLt ((((done.length :: rest).map fun i => urgD ((done ++ j :: r).getD i noJob))).getD i .none) ((((done.length :: rest).map fun i => urgD ((done ++ j :: r).getD i noJob))).getD 0 .none) = false
    obtain ⟨i, rfl⟩ : ∃ m, i = m + 1 := ⟨i - 1, by omega⟩
    have il : i < rest.length := by omega
    obtain ⟨m, hm, ml⟩ := hrest _ (List.getElem_mem il)
    have g0 : (done ++ j :: r).getD done.length noJob = j := by
      rw [List.getD_eq_getElem?_getD, List.getElem?_append_right (Nat.le_refl _), Nat.sub_self]
      rfl
    have g1 : (done ++ j :: r).getD rest[i] noJob = r[m] := by
      rw [hm, List.getD_eq_getElem?_getD, List.getElem?_append_right (by omega), Nat.add_sub_cancel_left, List.getElem?_cons_succ, List.getElem?_eq_getElem ml]
      rfl
    rw [List.map_cons, List.getD_cons_succ, List.getD_cons_zero, g0, List.getD_eq_getElem?_getD, List.getElem?_map, List.getElem?_eq_getElem il]
    show dataLt (urgD ((done ++ j :: r).getD rest[i] noJob)) (urgD j) = false
    rw [g1]
    obtain ⟨h1, h2⟩ := hr _ (List.getElem_mem ml)
    exact urg_not h1 h2
theorem nextRel_app {done js : List Jb} {h : Int} (k : ∀ d ∈ done, d.r.rel ≤ h) : nextRel (done ++ js) h = nextRel js h := by
  unfold nextRel
  rw [List.filter_append, List.filter_eq_nil_iff.mpr fun d hd => by
    have := k d hd
    simp; omega, List.nil_append]
theorem minO_first {n : Int} {r : List Int} (h : ∀ x ∈ r, n ≤ x) : minO (n :: r) = some n := by
  show some (r.foldl min n) = some n
  congr 1
  obtain ⟨h1, _, h3⟩ := foldl_min_le r n
  rcases h3 with z | z
  · exact z
  · have := h _ z
    omega
theorem nextRel_first {j : Jb} {r : List Jb} {h : Int} (hj : h < j.r.rel) (hr : ∀ x ∈ r, j.r.rel ≤ x.r.rel) : nextRel (j :: r) h = some j.r.rel := by
  unfold nextRel
  rw [List.filter_cons, if_pos (decide_eq_true hj), List.map_cons]
  refine minO_first fun x hx => ?_
  obtain ⟨y, hy, rfl⟩ := List.mem_map.mp hx
  exact hr y (List.mem_filter.mp hy).1
theorem at_step {ρ til : Int} {res : List Jb} {w : Ws} {done todo : List Jb} {free : Int} (A : AtW ρ res w done todo free) (h : w.hour < til) : ∃ done' todo' free', AtW ρ res (stepW true til w) done' todo' free' := by
  obtain ⟨hres, L, old, st⟩ := A
  rcases st with ⟨e, js⟩ | ⟨j, r, τ, e, js, t0, t1, hh⟩
  · -- all are done
    subst e
    have rn : readyAt w.js w.hour = [] := ready_nil fun d hd => not_ready (.inl (old d (js ▸ hd)).1)
    have nn : nextRel w.js w.hour = none := by
      have := nextRel_app (done := done) (js := []) (h := w.hour) fun d hd => (old d hd).2
      rw [List.append_nil] at this
      rw [js, this]
      rfl
    have es : stepW true til w = { w with hour := til } := by
      unfold stepW
      rw [if_pos rn, nn]
      rfl
    rw [es]
    exact ⟨done, [], free, hres, L, fun d hd => ⟨(old d hd).1, by have := (old d hd).2; show d.r.rel ≤ til; omega⟩, .inl ⟨rfl, js⟩⟩
  · subst e
    obtain ⟨f1, f2, f3⟩ := L.fresh j List.mem_cons_self
    have rels := (List.pairwise_cons.mp L.rels).1
    have nums := (List.pairwise_cons.mp L.nums).1
    by_cases wait : τ = 0 ∧ w.hour < max free j.r.rel
    · -- nobody is there yet
      obtain ⟨z, wt⟩ := wait
      subst z
      have fh : free ≤ w.hour := by
        rcases hh with ⟨_, a, b⟩ | a
        · exact a
        · omega
      have lt : w.hour < j.r.rel := by omega
      have ej : ({ j with ticks := 0 } : Jb) = j := by
        obtain ⟨a, b, c, d⟩ := j
        have : c = 0 := f1
        rw [this]
      rw [ej] at js
      have rn : readyAt w.js w.hour = [] := ready_nil fun d hd => by
        rw [js] at hd
        rcases List.mem_append.mp hd with z | z
        · exact not_ready (.inl (old d z).1)
        · rcases List.mem_cons.mp z with z | z
          · rw [z]; exact not_ready (.inr lt)
          · exact not_ready (.inr (by have := rels d z; omega))
      have nn : nextRel w.js w.hour = some j.r.rel := by
        rw [js, nextRel_app fun d hd => (old d hd).2]
        exact nextRel_first lt rels
      have es : stepW true til w = { w with hour := j.r.rel } := by
        unfold stepW
        rw [if_pos rn, nn]
        rfl
      rw [es]
      refine ⟨done, j :: r, free, hres, L, fun d hd => ⟨(old d hd).1, ?_⟩, .inr ⟨j, r, 0, rfl, by rw [ej]; exact js, Int.le_refl _, t1, .inl ⟨rfl, by show free ≤ j.r.rel; omega, by show j.r.rel ≤ _; omega⟩⟩⟩
      have := (old d hd).2
      show d.r.rel ≤ j.r.rel
      omega
    · -- it works
      have hour : w.hour = max free j.r.rel + τ := by
        rcases hh with ⟨a, b, c⟩ | a
        · omega
        · exact a
      have rd : isReady w.hour { j with ticks := τ } = true := by
        unfold isReady
        show (decide (j.r.rel ≤ w.hour) && decide (j.ended = none)) = true
        rw [decide_eq_true (by omega), decide_eq_true f2]
        rfl
      have od : ∀ d ∈ done, d.ended ≠ none := fun d hd => (old d hd).1
      have rr : ∀ x ∈ r, x.t.rank = ({ j with ticks := τ } : Jb).t.rank ∧ ({ j with ticks := τ } : Jb).r.num < x.r.num := fun x hx => ⟨by
        show x.t.rank = j.t.rank
        rw [L.rank x (List.mem_cons_of_mem _ hx), L.rank j List.mem_cons_self], nums x hx⟩
      have pk : pick w.js w.hour = done.length := by
        rw [js]
        exact pick_first (ρ := ρ) od rd rr
      have rn : ¬ readyAt w.js w.hour = [] := by
        obtain ⟨rest, e, _⟩ := ready_cons (r := r) od rd
        rw [js, e]
        simp
      have gj : w.js.getD done.length noJob = { j with ticks := τ } := by
        rw [js, List.getD_eq_getElem?_getD, List.getElem?_append_right (Nat.le_refl _), Nat.sub_self]
        rfl
      have gg : goalOf true ({ j with ticks := τ } : Jb) = goalOf true j := rfl
      generalize hs : stopOf true til w.hour (nextRel w.js w.hour) { j with ticks := τ } = s
      have s1 : w.hour < s ∧ s ≤ til ∧ s ≤ w.hour + goalOf true j - τ := by
        rw [← hs]
        unfold stopOf
        rw [gg]
        show _ ∧ _
        have e0 : ({ j with ticks := τ } : Jb).ticks = τ := rfl
        cases e : nextRel w.js w.hour with
        | none => dsimp only; omega
        | some m =>
          obtain ⟨h1, _⟩ := nextRel_some e
          dsimp only
          omega
      obtain ⟨s2, s3, s4⟩ := s1
      have es : (stepW true til w).js = done ++ (doneJ true w.hour s { j with ticks := τ } :: r) ∧ (stepW true til w).hour = s := by
        unfold stepW
        rw [if_neg rn]
        dsimp only
        rw [pk, gj, hs]
        refine ⟨?_, rfl⟩
        rw [js, List.set_append_right _ _ (Nat.le_refl _), Nat.sub_self]
        rfl
      obtain ⟨es1, es2⟩ := es
      by_cases en : τ + (s - w.hour) = goalOf true j
      · -- it ends
        have dj : doneJ true w.hour s { j with ticks := τ } = finJ j (max free j.r.rel + goalOf true j) := by
          unfold doneJ finJ
          rw [gg]
          show (if τ + (s - w.hour) = goalOf true j then _ else _) = _
          rw [if_pos en]
          have e1 : s = max free j.r.rel + goalOf true j := by omega
          show ({ j with ticks := τ + (s - w.hour), ended := some s } : Jb) = _
          rw [en, ← e1]
        rw [dj] at es1
        refine ⟨done ++ [finJ j (max free j.r.rel + goalOf true j)], r, max free j.r.rel + goalOf true j, ?_, L.tail, fun d hd => ?_, ?_⟩
        · rw [List.append_assoc]
          exact hres
        · rw [es2]
          rcases List.mem_append.mp hd with z | z
          · exact ⟨od d z, by have := (old d z).2; omega⟩
          · rw [List.mem_singleton.mp z]
            exact ⟨by simp [finJ], by show j.r.rel ≤ s; omega⟩
        · cases r with
          | nil => exact .inl ⟨rfl, es1⟩
          | cons j2 r2 =>
            obtain ⟨a1, a2, a3⟩ := L.fresh j2 (List.mem_cons_of_mem _ List.mem_cons_self)
            refine .inr ⟨j2, r2, 0, rfl, ?_, Int.le_refl _, by omega, .inl ⟨rfl, by rw [es2]; omega, by rw [es2]; omega⟩⟩
            rw [es1, List.append_assoc]
            have ej : ({ j2 with ticks := 0 } : Jb) = j2 := by
              obtain ⟨a, b, c, d⟩ := j2
              have : c = 0 := a1
              rw [this]
            rw [ej]
            rfl
      · have dj : doneJ true w.hour s { j with ticks := τ } = { j with ticks := τ + (s - w.hour) } := by
          unfold doneJ
          rw [gg]
          show (if τ + (s - w.hour) = goalOf true j then _ else _) = _
          rw [if_neg en]
        rw [dj] at es1
        refine ⟨done, j :: r, free, hres, L, fun d hd => ⟨od d hd, by rw [es2]; have := (old d hd).2; omega⟩, .inr ⟨j, r, τ + (s - w.hour), rfl, es1, by omega, by omega, .inr (by rw [es2]; omega)⟩⟩
theorem at_steps {ρ til : Int} {res : List Jb} {u w : Ws} (h : Steps true til u w) : (∃ d t f, AtW ρ res u d t f) → ∃ d t f, AtW ρ res w d t f := by
  induction h with
  | refl => exact id
  | step _ lt ih =>
    intro a
    obtain ⟨d, t, f, A⟩ := ih a
    exact at_step A lt
/-- the machine of such a line -/
theorem mach {ρ til free : Int} {js : List Jb} {w : Ws} (L : Line ρ js) (h0 : ∀ j ∈ js, free ≤ j.r.rel) (hb : ∀ j ∈ zipFin free js, ∃ f, j.ended = some f ∧ f ≤ til) (st : Steps true til ⟨js, [], (minO (js.map fun j => j.r.rel)).getD til⟩ w) (nl : ¬ w.hour < til) : w.js = zipFin free js := by
  obtain ⟨d, t, f, hres, L2, old, s⟩ := at_steps (ρ := ρ) (res := zipFin free js) st ⟨[], js, free, rfl, L, (fun _ h => nomatch h), by
    cases js with
    | nil => exact .inl ⟨rfl, rfl⟩
    | cons j r =>
      obtain ⟨f1, f2, f3⟩ := L.fresh j List.mem_cons_self
      have ej : ({ j with ticks := 0 } : Jb) = j := by
        obtain ⟨a, b, c, d⟩ := j
        have : c = 0 := f1
        rw [this]
      have rels := (List.pairwise_cons.mp L.rels).1
      have := h0 j List.mem_cons_self
      refine .inr ⟨j, r, 0, rfl, by rw [ej]; rfl, Int.le_refl _, by omega, .inr ?_⟩
      rw [List.map_cons, minO_first fun x hx => by obtain ⟨y, hy, rfl⟩ := List.mem_map.mp hx; exact rels y hy]
      show j.r.rel = _
      omega⟩
  rcases s with ⟨e, js'⟩ | ⟨j, r, τ, e, js', t0, t1, hh⟩
  · subst e
    rw [js', ← hres]
    exact (List.append_nil _).symm
  · subst e
    have hm : finJ j (max f j.r.rel + goalOf true j) ∈ zipFin free js := by
      rw [← hres]
      exact List.mem_append.mpr (.inr List.mem_cons_self)
    obtain ⟨x, hx, hx2⟩ := hb _ hm
    have : some (max f j.r.rel + goalOf true j) = some x := hx
    cases this
    omega
end K7

set_option Elab.async false
set_option linter.all false
set_option maxRecDepth 100000
set_option maxHeartbeats 4000000
namespace K7
open PySem PySem.Spec PySem.W L2 Pw
open PyProof.Rows hiding St
variable [Tbs]
/-! ### an era of one task -/
def to4 (A : Str) (q : W3i) : W4 := (q.1, A, q.2.1, q.2.2)
def mkJ (t : TaskD) (r : JR) : Jb := ⟨t, r, 0, none⟩
def conv (at_ : Int) (j : Jb) : LJ := ⟨at_, j.t.name, j.r.num, j.r.arr, j.r.rel, j.r.work, j.ticks, j.ended.getD 0⟩
def prs (L : List W3i) : List (Int × Int) := L.map fun q => (q.1, q.2.1)
theorem byRank1 (t : TaskD) : byRank [t] = [t] := by unfold byRank; simp
theorem hasT1 (t : TaskD) (n : Str) : hasT [t] n = decide (n = t.name) := by
  unfold hasT
  rw [byRank1]
  unfold inV
  simp only [List.map_cons, List.map_nil, List.any_cons, List.any_nil, Bool.or_false, eqV]
  by_cases z : n = t.name
  · simp [z]
  · have : ¬ t.name = n := fun e => z e.symm
    simp [z, this]
theorem own1 {t : TaskD} {ws : List W4} (h : ∀ q ∈ ws, q.2.1 = t.name) : ownOf [t] ws = srt w4D ws ∧ strangeOf [t] ws = [] := by
  unfold ownOf strangeOf
  rw [List.filter_eq_self.mpr fun q hq => by rw [hasT1]; exact decide_eq_true (h q hq), List.filter_eq_nil_iff.mpr fun q hq => by rw [hasT1, decide_eq_true (h q hq)]; simp]
  exact ⟨rfl, srt_nil _⟩
theorem strange1 {t : TaskD} {ws : List W4} (h : ∀ q ∈ ws, q.2.1 ≠ t.name) : ownOf [t] ws = [] ∧ (strangeOf [t] ws).Perm ws := by
  unfold ownOf strangeOf
  have e1 : (ws.filter fun q => hasT [t] q.2.1) = [] := List.filter_eq_nil_iff.mpr fun q hq => by rw [hasT1, decide_eq_false (h q hq)]; simp
  have e2 : (ws.filter fun q => !hasT [t] q.2.1) = ws := List.filter_eq_self.mpr fun q hq => by rw [hasT1, decide_eq_false (h q hq)]; rfl
  rw [e1, e2]
  exact ⟨srt_nil _, srt_perm⟩
theorem nd1 (t : TaskD) : ([t].map (·.name)).Nodup := by simp
theorem mine_srt {t : TaskD} {own : List W4} {rows : List W3i} (til : Int) (p : own.Perm (rows.map (to4 t.name))) : srt p3D (mineOf t own til) = (srt p3D rows).filter fun q => decide (q.1 < til) := by
  rw [← srt_filter inj_p3]
  refine srt_congr inj_p3 ?_
  unfold mineOf
  have p1 := (p.filter fun q => decide (V.str q.2.1 = V.str t.name) && decide (q.1 < til)).map fun q : W4 => ((q.1, q.2.2.1, q.2.2.2) : W3i)
  refine p1.trans (List.Perm.of_eq ?_)
  rw [List.filter_map, List.map_map]
  have e1 : ((fun q : W4 => ((q.1, q.2.2.1, q.2.2.2) : W3i)) ∘ to4 t.name) = id := by
    funext q
    rfl
  have e2 : ((fun q : W4 => decide (V.str q.2.1 = V.str t.name) && decide (q.1 < til)) ∘ to4 t.name) = fun q : W3i => decide (q.1 < til) := by
    funext q
    show (decide (V.str t.name = V.str t.name) && decide (q.1 < til)) = _
    rw [decide_eq_true rfl, Bool.true_and]
  rw [e1, e2, List.map_id]
theorem letOf1 {t : TaskD} {own : List W4} {rows : List W3i} (til : Int) (p : own.Perm (rows.map (to4 t.name))) :
    letOf [t] own til = ((jobsOf t true none 0 (prs ((srt p3D rows).filter fun q => decide (q.1 < til)))).zip ((srt p3D rows).filter fun q => decide (q.1 < til))).map fun q => (q.1, to4 t.name q.2) := by
  unfold letOf
  rw [byRank1, List.flatMap_cons, List.flatMap_nil, List.append_nil]
  have e : rowsOf [t] t own til = jobsOf t true none 0 (prs ((srt p3D rows).filter fun q => decide (q.1 < til))) := by
    unfold rowsOf
    rw [letIn_one (nd1 t) List.mem_cons_self fun q hq => by obtain ⟨z, _, rfl⟩ := List.mem_map.mp hq; rfl, mine_srt til p, List.map_map]
    congr 1
    refine srt_self inj_pair ?_
    exact p3_pairs (srt_pairwise.filter _)
  rw [e, mine_srt til p]
  rfl
/-! rows that are let in, one by one -/
theorem jobs_ge {t : TaskD} : ∀ {rows : List (Int × Int)} {last : Option Int} {k : Nat} {r : JR}, 0 ≤ t.gap → r ∈ jobsOf t true last k rows → k ≤ r.num ∧ (∀ a, last = some a → a + t.gap ≤ r.arr) ∧ r.name = t.name ∧ ∃ p ∈ rows, r.hour = p.1 ∧ r.work = p.2 ∧ r.rel = max p.1 r.arr
  | [], _, _, _, _, h => nomatch h
  | p :: rows, last, k, r, g, h => by
    rcases List.mem_cons.mp h with z | z
    · subst z
      refine ⟨Nat.le_refl _, fun a e => ?_, rfl, p, List.mem_cons_self, rfl, rfl, rfl⟩
      subst e
      show a + t.gap ≤ max _ _
      omega
    · obtain ⟨h1, h2, h3, q, h4, h5, h6, h7⟩ := jobs_ge g z
      refine ⟨by omega, fun a e => ?_, h3, q, List.mem_cons_of_mem _ h4, h5, h6, h7⟩
      subst e
      have := h2 _ rfl
      have e1 : arrOf t (some a) p.1 = max (p.1 - t.wait) (a + t.gap) := rfl
      omega
theorem jobs_le {t : TaskD} {Y : Int} (hg : t.gap ≤ 60) (hw : 0 ≤ t.wait) : ∀ {rows : List (Int × Int)} {last : Option Int} {k : Nat} {r : JR} {M : Int}, (∀ p ∈ rows, p.1 ≤ Y) → Y ≤ M → (∀ a, last = some a → a ≤ M) → r ∈ jobsOf t true last k rows → r.arr ≤ M + 60 * rows.length
  | [], _, _, _, _, _, _, _, h => nomatch h
  | p :: rows, last, k, r, M, hY, hM, hl, h => by
    have a0 : arrOf t last p.1 ≤ M + 60 := by
      have := hY p List.mem_cons_self
      cases last with
      | none => show p.1 - t.wait ≤ _; omega
      | some a =>
        have := hl a rfl
        show max (p.1 - t.wait) (a + t.gap) ≤ _
        omega
    rw [List.length_cons]
    rcases List.mem_cons.mp h with z | z
    · subst z
      show arrOf t last p.1 ≤ _
      omega
    · have := jobs_le hg hw (M := M + 60) (fun q hq => hY q (List.mem_cons_of_mem _ hq)) (by omega) (fun a e => by cases e; exact a0) z
      omega
theorem jobs_pair {t : TaskD} (g : 0 ≤ t.gap) : ∀ {rows : List (Int × Int)} {last : Option Int} {k : Nat}, (rows.Pairwise fun a b => a.1 ≤ b.1) → (jobsOf t true last k rows).Pairwise fun a b => a.rel ≤ b.rel ∧ a.num < b.num
  | [], _, _, _ => .nil
  | p :: rows, last, k, h => by
    rw [List.pairwise_cons] at h
    refine List.pairwise_cons.mpr ⟨fun r hr => ?_, jobs_pair g h.2⟩
    obtain ⟨h1, h2, _, q, h4, _, _, h7⟩ := jobs_ge g hr
    have h8 := h2 _ rfl
    have h9 := h.1 q h4
    refine ⟨?_, by show k < r.num; omega⟩
    rw [h7]
    show max p.1 (arrOf t last p.1) ≤ _
    omega
theorem core {t : TaskD} {at_ c : Int} (g : 1 ≤ t.gap) : ∀ (L : List W3i) (last : Option Int) (k : Nat) (free : Int), ((zipFin free (((jobsOf t true last k (prs L)).filter fun r => decide (r.arr ≤ c)).map (mkJ t))).map (conv at_)) = (loGo t at_ last k free L).filter fun j => decide (j.arr ≤ c)
  | [], _, _, _ => rfl
  | q :: L, last, k, free => by
    have ej : jobsOf t true last k (prs (q :: L)) = ⟨t.name, k, q.1, arrOf t last q.1, max q.1 (arrOf t last q.1), q.2.1⟩ :: jobsOf t true (some (arrOf t last q.1)) (k + 1) (prs L) := rfl
    have el : loGo t at_ last k free (q :: L) = ⟨at_, t.name, k, arrOf t last q.1, max q.1 (arrOf t last q.1), q.2.1, min q.2.1 t.most, max free (max q.1 (arrOf t last q.1)) + min q.2.1 t.most⟩ ::
      loGo t at_ (some (arrOf t last q.1)) (k + 1) (max free (max q.1 (arrOf t last q.1)) + min q.2.1 t.most) L := rfl
    rw [ej, el]
    by_cases z : arrOf t last q.1 ≤ c
    · rw [List.filter_cons_of_pos (by exact decide_eq_true z), List.filter_cons_of_pos (by exact decide_eq_true z), List.map_cons, ← core (at_ := at_) (c := c) g L (some (arrOf t last q.1)) (k + 1) (max free (max q.1 (arrOf t last q.1)) + min q.2.1 t.most)]
      rfl
    · rw [List.filter_cons_of_neg (by simpa using z), List.filter_cons_of_neg (by simpa using z)]
      have e1 : ((jobsOf t true (some (arrOf t last q.1)) (k + 1) (prs L)).filter fun r => decide (r.arr ≤ c)) = [] := List.filter_eq_nil_iff.mpr fun r hr => by
        have := (jobs_ge (by omega) hr).2.1 _ rfl
        simp; omega
      have e2 : ∀ (L : List W3i) (a : Int) (k : Nat) (fr : Int), c < a → ((loGo t at_ (some a) k fr L).filter fun j => decide (j.arr ≤ c)) = [] := fun L => by
        induction L with
        | nil => intro _ _ _ _; rfl
        | cons p L ih =>
          intro a k fr ha
          show List.filter _ (_ :: loGo t at_ (some (max (p.1 - t.wait) (a + t.gap))) (k + 1) _ L) = []
          rw [List.filter_cons, if_neg (by show ¬ decide (max (p.1 - t.wait) (a + t.gap) ≤ c) = true; simp; omega)]
          exact ih _ _ _ (by omega)
      rw [e1, e2 _ _ _ _ (by omega)]
      rfl
theorem zip_fst {t : TaskD} {L : List W3i} {last : Option Int} {k : Nat} : ((jobsOf t true last k (prs L)).zip L).map (fun q => q.1) = jobsOf t true last k (prs L) := by
  have e : (jobsOf t true last k (prs L)).length = L.length := by rw [jobsOf_len]; unfold prs; rw [List.length_map]
  rw [show (fun q : JR × W3i => q.1) = Prod.fst from rfl, List.map_fst_zip (by omega)]
theorem zip_filter {t : TaskD} {c : Int} (g : 1 ≤ t.gap) : ∀ (L : List W3i) (last : Option Int) (k : Nat), (((jobsOf t true last k (prs L)).zip L).filter fun q => decide (q.1.arr ≤ c)).map (fun q => q.1) = (jobsOf t true last k (prs L)).filter (fun r => decide (r.arr ≤ c)) ∧
    (((jobsOf t true last k (prs L)).zip L).filter fun q => decide (q.1.arr > c)).map (fun q => q.2) = L.drop ((jobsOf t true last k (prs L)).filter fun r => decide (r.arr ≤ c)).length
  | [], _, _ => ⟨rfl, rfl⟩
  | q :: L, last, k => by
    obtain ⟨h1, h2⟩ := zip_filter g L (some (arrOf t last q.1)) (k + 1)
    have ej : jobsOf t true last k (prs (q :: L)) = ⟨t.name, k, q.1, arrOf t last q.1, max q.1 (arrOf t last q.1), q.2.1⟩ :: jobsOf t true (some (arrOf t last q.1)) (k + 1) (prs L) := rfl
    rw [ej, List.zip_cons_cons]
    by_cases z : arrOf t last q.1 ≤ c
    · rw [List.filter_cons_of_pos (by exact decide_eq_true z), List.filter_cons_of_pos (by exact decide_eq_true z), List.filter_cons_of_neg (by simpa using z), List.map_cons, h1, List.length_cons, List.drop_succ_cons]
      exact ⟨rfl, h2⟩
    · have e1 : ((jobsOf t true (some (arrOf t last q.1)) (k + 1) (prs L)).filter fun r => decide (r.arr ≤ c)) = [] := List.filter_eq_nil_iff.mpr fun r hr => by
        have := (jobs_ge (by omega) hr).2.1 _ rfl
        simp; omega
      rw [e1] at h1 h2
      rw [List.filter_cons_of_neg (by simpa using z), List.filter_cons_of_neg (by simpa using z), List.filter_cons_of_pos (by simpa using z), List.map_cons, h1, h2, e1]
      exact ⟨rfl, rfl⟩
/-- all end in time -/
theorem fins_le {X : Int} : ∀ {js : List Jb} {free : Int}, free ≤ X → (∀ j ∈ js, j.r.rel ≤ X ∧ goalOf true j ≤ 12) → ∀ x ∈ zipFin free js, ∃ f, x.ended = some f ∧ f ≤ X + 12 * js.length
  | [], _, _, _, _, h => nomatch h
  | j :: r, free, hf, hj, x, h => by
    obtain ⟨a, b⟩ := hj j List.mem_cons_self
    rw [List.length_cons]
    rcases List.mem_cons.mp h with z | z
    · subst z
      exact ⟨_, rfl, by omega⟩
    · obtain ⟨f, h1, h2⟩ := fins_le (X := X + 12) (by omega) (fun y hy => by
        have := hj y (List.mem_cons_of_mem _ hy)
        omega) x z
      exact ⟨f, h1, by omega⟩
theorem zipFin_len : ∀ (js : List Jb) (free : Int), (zipFin free js).length = js.length
  | [], _ => rfl
  | _ :: r, _ => congrArg Nat.succ (zipFin_len r _)
structure EraIn (t : TaskD) (rows : List W3i) (ws : List W4) (begun : Int) : Prop where
  perm : ws.Perm (rows.map (to4 t.name))
  ge : ∀ q ∈ rows, begun ≤ q.1
  work : ∀ q ∈ rows, 1 ≤ q.2.1
  one : OneOk t
theorem EraIn.own {t : TaskD} {rows : List W3i} {ws : List W4} {begun : Int} (E : EraIn t rows ws begun) : (ownOf [t] ws).Perm (rows.map (to4 t.name)) ∧ strangeOf [t] ws = [] := by
  obtain ⟨h1, h2⟩ := own1 (t := t) (ws := ws) fun q hq => by
    obtain ⟨z, _, rfl⟩ := List.mem_map.mp (E.perm.mem_iff.mp hq)
    rfl
  rw [h1]
  exact ⟨srt_perm.trans E.perm, h2⟩
/-- the machine over the first of such rows -/
theorem era_run {t : TaskD} {rows : List W3i} {ws : List W4} {begun at_ lim c til X : Int} {w : Ws} (E : EraIn t rows ws begun) (hb : begun ≤ X) (hX : ∀ r ∈ jobsOf t true none 0 (prs ((srt p3D rows).filter fun q => decide (q.1 < lim))), r.arr ≤ c → r.rel ≤ X) (ht : X + 12 * rows.length ≤ til)
    (st : Steps true til (startW [t] ((jobsOf t true none 0 (prs ((srt p3D rows).filter fun q => decide (q.1 < lim)))).filter fun r => decide (r.arr ≤ c)) til) w) (nl : ¬ w.hour < til) :
    w.js.map (conv at_) = (loGo t at_ none 0 begun ((srt p3D rows).filter fun q => decide (q.1 < lim))).filter (fun j => decide (j.arr ≤ c)) ∧ (∀ j ∈ w.js, ∃ f, j.ended = some f ∧ f ≤ X + 12 * rows.length) ∧ (∀ j ∈ w.js, j.r.arr ≤ X) ∧
      w.js.length = ((jobsOf t true none 0 (prs ((srt p3D rows).filter fun q => decide (q.1 < lim)))).filter fun r => decide (r.arr ≤ c)).length := by
  have O := E.one
  have g0 : 0 ≤ t.gap := by have := O.gap; omega
  generalize hL : ((srt p3D rows).filter fun q => decide (q.1 < lim)) = L at *
  have Lmem : ∀ q ∈ L, q ∈ rows := fun q hq => by
    rw [← hL] at hq
    exact srt_perm.mem_iff.mp (List.mem_filter.mp hq).1
  have Lle : L.length ≤ rows.length := by
    rw [← hL]
    exact Nat.le_trans (List.length_filter_le _ _) (Nat.le_of_eq (srt_len _ _))
  have Lpair : (prs L).Pairwise fun a b => a.1 ≤ b.1 := by
    rw [← hL]
    unfold prs
    rw [List.pairwise_map]
    exact p3_hours (srt_pairwise.filter _)
  generalize hR : ((jobsOf t true none 0 (prs L)).filter fun r => decide (r.arr ≤ c)) = R at *
  have Rmem : ∀ r ∈ R, r ∈ jobsOf t true none 0 (prs L) ∧ r.arr ≤ c := fun r hr => by
    rw [← hR] at hr
    exact ⟨(List.mem_filter.mp hr).1, of_decide_eq_true (List.mem_filter.mp hr).2⟩
  have Rle : R.length ≤ rows.length := by
    rw [← hR]
    refine Nat.le_trans (List.length_filter_le _ _) ?_
    rw [jobsOf_len]
    unfold prs
    rw [List.length_map]
    exact Lle
  have ej : R.map (jobOf [t]) = R.map (mkJ t) := List.map_congr_left fun r hr => by
    obtain ⟨h1, h2, h3, _⟩ := jobs_ge g0 (Rmem r hr).1
    unfold jobOf mkJ
    rw [List.find?_cons, decide_eq_true h3.symm]
    rfl
  have props : ∀ r ∈ R, begun ≤ r.rel ∧ 1 ≤ r.work ∧ r.arr ≤ r.rel := fun r hr => by
    obtain ⟨h1, h2, h3, p, h4, h5, h6, h7⟩ := jobs_ge g0 (Rmem r hr).1
    unfold prs at h4
    obtain ⟨q, hq, rfl⟩ := List.mem_map.mp h4
    have := E.ge q (Lmem q hq)
    have := E.work q (Lmem q hq)
    exact ⟨by rw [h7]; show begun ≤ max q.1 _; omega, by rw [h6]; exact this, by rw [h7]; omega⟩
  have goal : ∀ r ∈ R, 1 ≤ goalOf true (mkJ t r) ∧ goalOf true (mkJ t r) ≤ 12 := fun r hr => by
    have := (props r hr).2.1
    have := O.most
    show 1 ≤ (if true = true then min r.work t.most else _) ∧ (if true = true then min r.work t.most else _) ≤ 12
    rw [if_pos rfl]
    omega
  have Rpair : R.Pairwise fun a b => a.rel ≤ b.rel ∧ a.num < b.num := by
    rw [← hR]
    exact (jobs_pair g0 Lpair).filter _
  have Ln : Line t.rank (R.map (mkJ t)) := ⟨fun j hj => by
    obtain ⟨r, hr, rfl⟩ := List.mem_map.mp hj
    exact ⟨rfl, rfl, (goal r hr).1⟩, by
    rw [List.pairwise_map]
    exact Rpair.imp fun h => h.1, by
    rw [List.pairwise_map]
    exact Rpair.imp fun h => h.2, fun j hj => by
    obtain ⟨r, hr, rfl⟩ := List.mem_map.mp hj
    rfl⟩
  have fl := fins_le (X := X) (js := R.map (mkJ t)) hb fun j hj => by
    obtain ⟨r, hr, rfl⟩ := List.mem_map.mp hj
    exact ⟨hX r (Rmem r hr).1 (Rmem r hr).2, (goal r hr).2⟩
  unfold startW at st
  rw [ej] at st
  have m := mach (free := begun) Ln (fun j hj => by
    obtain ⟨r, hr, rfl⟩ := List.mem_map.mp hj
    exact (props r hr).1) (fun x hx => by
    obtain ⟨f, h1, h2⟩ := fl x hx
    rw [List.length_map] at h2
    exact ⟨f, h1, by omega⟩) st nl
  rw [m]
  refine ⟨?_, fun j hj => ?_, ?_, by rw [zipFin_len, List.length_map]⟩
  · rw [← hR]
    exact core O.gap.1 L none 0 begun
  · obtain ⟨f, h1, h2⟩ := fl j hj
    rw [List.length_map] at h2
    exact ⟨f, h1, by omega⟩
  · have key : ∀ (js : List Jb) (fr : Int), (∀ j ∈ js, j.r.arr ≤ X) → ∀ x ∈ zipFin fr js, x.r.arr ≤ X := fun js => by
      induction js with
      | nil => intro _ _ x h; cases h
      | cons j r ih =>
        intro fr h x hx
        rcases List.mem_cons.mp hx with z | z
        · subst z; exact h j List.mem_cons_self
        · exact ih _ (fun y hy => h y (List.mem_cons_of_mem _ hy)) x z
    refine key _ _ fun j hj => ?_
    obtain ⟨r, hr, rfl⟩ := List.mem_map.mp hj
    have h1 := hX r (Rmem r hr).1 (Rmem r hr).2
    have h2 := (props r hr).2.2
    show r.arr ≤ X
    omega
end K7

set_option Elab.async false
set_option linter.all false
set_option maxRecDepth 100000
set_option maxHeartbeats 4000000
namespace K7
open PySem PySem.Spec PySem.W L2 Pw
open PyProof.Rows hiding St
variable [Tbs]
/-! ### what the law reckons is what the house tells -/
def upTo (begun : Int) (rows : List W3i) : List W3i := rows.map fun q => (max q.1 begun, q.2.1, q.2.2)
theorem gone_eq (t : TaskD) (at_ : Int) (rows : List W3i) (begun asked : Int) : goneJobs t at_ rows begun asked = (loGo t at_ none 0 begun ((srt p3D (upTo begun rows)).filter fun q => decide (q.1 < asked))).filter fun j => decide (j.arr ≤ asked) := by
  unfold goneJobs loOf mineL
  rw [srt_self inj_p3 (srt_pairwise.filter _)]
  rfl
theorem lived_eq {js : List Jb} {til k : Int} (h1 : ∀ j ∈ js, ∃ f, j.ended = some f) (h2 : ∀ j ∈ js, j.r.arr < til) : (livedOf til k js).map livedD = (js.map (conv k)).map ljD := by
  unfold livedOf
  rw [List.filter_eq_self.mpr fun j hj => decide_eq_true (h2 j hj), List.map_map, List.map_map]
  refine List.map_congr_left fun j hj => ?_
  obtain ⟨f, hf⟩ := h1 j hj
  show PyData.tuple ([.int k] ++ toldL j) = ljD (conv k j)
  unfold toldL ljD conv
  rw [hf]
  rfl
theorem begun_eq {js : List Jb} {til f0 k : Int} (h1 : ∀ j ∈ js, ∃ f, j.ended = some f) : begunOf til f0 js = goneFin (js.map (conv k)) f0 := by
  unfold begunOf goneFin
  have e : inV .non (js.map fun j : Jb => oV j.ended) = false := by
    unfold inV
    rw [List.any_eq_false]
    intro x hx
    obtain ⟨j, hj, rfl⟩ := List.mem_map.mp hx
    obtain ⟨f, hf⟩ := h1 j hj
    rw [hf]
    simp [oV, eqV]
  rw [if_neg (by rw [e]; simp), List.map_map]
  rfl
theorem fin_le {js : List LJ} {f0 M : Int} (h0 : f0 ≤ M) (h : ∀ j ∈ js, j.fin ≤ M) : f0 ≤ goneFin js f0 ∧ goneFin js f0 ≤ M := by
  unfold goneFin
  refine ⟨maxI_ge (by simp), ?_⟩
  have := maxI_mem (ns := (js.map fun j => j.fin) ++ [f0]) (by simp)
  rcases List.mem_append.mp this with z | z
  · obtain ⟨j, hj, e⟩ := List.mem_map.mp z
    rw [← e]; exact h j hj
  · rw [List.mem_singleton.mp z]; exact h0
theorem hours_split {c : Int} : ∀ {xs : List W3i}, (xs.Pairwise fun a b => a.1 ≤ b.1) → xs = (xs.filter fun q => decide (q.1 < c)) ++ xs.filter fun q => decide (q.1 ≥ c)
  | [], _ => rfl
  | a :: r, h => by
    rw [List.pairwise_cons] at h
    by_cases z : a.1 < c
    · rw [List.filter_cons_of_pos (by exact decide_eq_true z), List.filter_cons_of_neg (by simpa using z), List.cons_append, ← hours_split h.2]
    · have e : ((a :: r).filter fun q => decide (q.1 < c)) = [] := List.filter_eq_nil_iff.mpr fun q hq => by
        rcases List.mem_cons.mp hq with y | y
        · rw [y]; simpa using z
        · have := h.1 q y
          simp; omega
      have e2 : ((a :: r).filter fun q => decide (q.1 ≥ c)) = a :: r := List.filter_eq_self.mpr fun q hq => by
        rcases List.mem_cons.mp hq with y | y
        · rw [y]; exact decide_eq_true (by omega)
        · have := h.1 q y
          exact decide_eq_true (by omega)
      rw [e, e2]
      rfl
theorem era_change {t : TaskD} {rows : List W3i} {ws : List W4} {begun k asked til : Int} {w : Ws} (E : EraIn t (upTo begun rows) ws begun) (hb : begun ≤ asked) (ht : asked + 12 * rows.length ≤ til) (ha : asked < til)
    (st : Steps true til (startW [t] (oldRows [t] (ownOf [t] ws) asked) til) w) (nl : ¬ w.hour < til) :
    (livedOf til k w.js).map livedD = (goneJobs t k rows begun asked).map ljD ∧ begunOf til asked w.js = goneFin (goneJobs t k rows begun asked) asked ∧
      (heldOf [t] (ownOf [t] ws) (strangeOf [t] ws) asked).Perm ((goneLeft (goneJobs t k rows begun asked) begun rows).map (to4 t.name)) ∧ asked ≤ goneFin (goneJobs t k rows begun asked) asked ∧ goneFin (goneJobs t k rows begun asked) asked ≤ asked + 12 * rows.length := by
  obtain ⟨po, hs⟩ := E.own
  have g0 : 0 ≤ t.gap := by have := E.one.gap; omega
  have lu : (upTo begun rows).length = rows.length := by unfold upTo; rw [List.length_map]
  have lo := letOf1 asked po
  have zf := zip_filter (c := asked) E.one.gap.1 ((srt p3D (upTo begun rows)).filter fun q => decide (q.1 < asked)) none 0
  have eo : oldRows [t] (ownOf [t] ws) asked = (jobsOf t true none 0 (prs ((srt p3D (upTo begun rows)).filter fun q => decide (q.1 < asked)))).filter fun r => decide (r.arr ≤ asked) := by
    unfold oldRows
    rw [lo, List.filter_map, List.map_map, ← zf.1]
    rfl
  rw [eo] at st
  obtain ⟨h1, h2, h3, h4⟩ := era_run (at_ := k) (X := asked) E hb (fun r hr hc => by
    obtain ⟨_, _, _, p, hp, _, _, h7⟩ := jobs_ge g0 hr
    unfold prs at hp
    obtain ⟨q, hq, rfl⟩ := List.mem_map.mp hp
    have := of_decide_eq_true (List.mem_filter.mp hq).2
    rw [h7]
    show max q.1 _ ≤ _
    omega) (by rw [lu]; exact ht) st nl
  have eJ : goneJobs t k rows begun asked = w.js.map (conv k) := by rw [gone_eq, h1]
  have h2' : ∀ j ∈ w.js, ∃ f, j.ended = some f := fun j hj => let ⟨f, a, _⟩ := h2 j hj; ⟨f, a⟩
  have fl := fin_le (js := goneJobs t k rows begun asked) (f0 := asked) (M := asked + 12 * rows.length) (by omega) fun j hj => by
    rw [eJ] at hj
    obtain ⟨x, hx, rfl⟩ := List.mem_map.mp hj
    obtain ⟨f, a, b⟩ := h2 x hx
    rw [lu] at b
    show x.ended.getD 0 ≤ _
    rw [a]
    exact b
  refine ⟨?_, ?_, ?_, fl.1, fl.2⟩
  · rw [eJ]
    exact lived_eq h2' fun j hj => by have := h3 j hj; omega
  · rw [eJ]
    exact begun_eq h2'
  · rw [hs]
    unfold heldOf goneLeft
    rw [lo, List.filter_map, List.map_map, List.append_nil]
    have e1 : (((jobsOf t true none 0 (prs ((srt p3D (upTo begun rows)).filter fun q => decide (q.1 < asked)))).zip ((srt p3D (upTo begun rows)).filter fun q => decide (q.1 < asked))).filter fun q => decide (q.1.arr > asked)).map (fun q => to4 t.name q.2) =
        (((srt p3D (upTo begun rows)).filter fun q => decide (q.1 < asked)).drop (goneJobs t k rows begun asked).length).map (to4 t.name) := by
      have : (goneJobs t k rows begun asked).length = ((jobsOf t true none 0 (prs ((srt p3D (upTo begun rows)).filter fun q => decide (q.1 < asked)))).filter fun r => decide (r.arr ≤ asked)).length := by rw [eJ, List.length_map, h4]
      rw [this, ← zf.2, List.map_map]
      rfl
    have e2 : mineL begun rows = srt p3D (upTo begun rows) := rfl
    have sp := hours_split (c := asked) (p3_hours (srt_pairwise (enc := p3D) (xs := upTo begun rows)))
    have ll : (goneJobs t k rows begun asked).length ≤ ((srt p3D (upTo begun rows)).filter fun q => decide (q.1 < asked)).length := by
      rw [eJ, List.length_map, h4]
      refine Nat.le_trans (List.length_filter_le _ _) ?_
      rw [jobsOf_len]
      unfold prs
      rw [List.length_map]
      exact Nat.le_refl _
    have e3 : (mineL begun rows).drop (goneJobs t k rows begun asked).length = ((srt p3D (upTo begun rows)).filter fun q => decide (q.1 < asked)).drop (goneJobs t k rows begun asked).length ++ (srt p3D (upTo begun rows)).filter fun q => decide (q.1 ≥ asked) := by
      rw [e2]
      conv => lhs; rw [sp]
      rw [List.drop_append_of_le_length ll]
    rw [e3, List.map_append]
    refine List.Perm.append (List.Perm.of_eq ?_) ?_
    · exact e1
    · have p1 := (po.trans ((srt_perm (enc := p3D) (xs := upTo begun rows)).symm.map (to4 t.name))).filter fun q : W4 => decide (q.1 ≥ asked)
      refine p1.trans (List.Perm.of_eq ?_)
      rw [List.filter_map]
      rfl
theorem era_last {t : TaskD} {rows : List W3i} {ws : List W4} {begun k til Y : Int} {w : Ws} (E : EraIn t (upTo begun rows) ws begun) (hb : begun ≤ Y) (hY : ∀ q ∈ rows, q.1 ≤ Y) (ht : Y + 72 * rows.length < til)
    (st : Steps true til (startW [t] ((letOf [t] (ownOf [t] ws) til).map fun q => q.1) til) w) (nl : ¬ w.hour < til) : (livedOf til k w.js).map livedD = (goneJobs t k rows begun til).map ljD := by
  obtain ⟨po, hs⟩ := E.own
  have g0 : 0 ≤ t.gap := by have := E.one.gap; omega
  have lu : (upTo begun rows).length = rows.length := by unfold upTo; rw [List.length_map]
  have lo := letOf1 til po
  have Ll : ((srt p3D (upTo begun rows)).filter fun q => decide (q.1 < til)).length ≤ rows.length := Nat.le_trans (List.length_filter_le _ _) (by rw [srt_len, lu]; exact Nat.le_refl _)
  have arrs : ∀ r ∈ jobsOf t true none 0 (prs ((srt p3D (upTo begun rows)).filter fun q => decide (q.1 < til))), r.arr ≤ Y + 60 * rows.length ∧ r.rel ≤ Y + 60 * rows.length := fun r hr => by
    have hours : ∀ p ∈ prs ((srt p3D (upTo begun rows)).filter fun q => decide (q.1 < til)), p.1 ≤ Y := fun p hp => by
      unfold prs at hp
      obtain ⟨q, hq, rfl⟩ := List.mem_map.mp hp
      have := srt_perm.mem_iff.mp (List.mem_filter.mp hq).1
      obtain ⟨q0, hq0, rfl⟩ := List.mem_map.mp this
      have := hY q0 hq0
      show max q0.1 begun ≤ Y
      omega
    have h1 := jobs_le (Y := Y) (M := Y) E.one.gap.2 E.one.wait.1 hours (Int.le_refl _) (fun a e => by cases e) hr
    obtain ⟨_, _, _, p, hp, _, _, h7⟩ := jobs_ge g0 hr
    have h2 := hours p hp
    have h3 : (prs ((srt p3D (upTo begun rows)).filter fun q => decide (q.1 < til))).length ≤ rows.length := by
      unfold prs
      rw [List.length_map]
      exact Ll
    rw [h7]
    omega
  have ef : ((jobsOf t true none 0 (prs ((srt p3D (upTo begun rows)).filter fun q => decide (q.1 < til)))).filter fun r => decide (r.arr ≤ til)) = jobsOf t true none 0 (prs ((srt p3D (upTo begun rows)).filter fun q => decide (q.1 < til))) := List.filter_eq_self.mpr fun r hr => by
    have := (arrs r hr).1
    exact decide_eq_true (by omega)
  have el : ((letOf [t] (ownOf [t] ws) til).map fun q => q.1) = (jobsOf t true none 0 (prs ((srt p3D (upTo begun rows)).filter fun q => decide (q.1 < til)))).filter fun r => decide (r.arr ≤ til) := by
    rw [ef, lo, List.map_map]
    exact zip_fst (L := ((srt p3D (upTo begun rows)).filter fun q => decide (q.1 < til)))
  rw [el] at st
  obtain ⟨h1, h2, h3, h4⟩ := era_run (at_ := k) (X := Y + 60 * rows.length) E (by omega) (fun r hr _ => (arrs r hr).2) (by rw [lu]; omega) st nl
  rw [gone_eq, ← h1]
  exact lived_eq (fun j hj => let ⟨f, a, _⟩ := h2 j hj; ⟨f, a⟩) fun j hj => by have := h3 j hj; omega
end K7

set_option Elab.async false
set_option linter.all false
set_option maxRecDepth 100000
set_option maxHeartbeats 4000000
namespace K7
open PySem PySem.Spec PySem.W L2 Pw
open PyProof.Rows hiding St
variable [Tbs]
/-! ### the law's bout -/
def rows3 (rs : List (Int × Int)) : List W3i := rs.map fun q => (q.1, q.2, q.1)
def lJ (t0 : TaskD) (rs : List (Int × Int)) (asked : Int) : List LJ := goneJobs t0 0 (rows3 rs) 0 asked
def lB (t0 : TaskD) (rs : List (Int × Int)) (asked : Int) : Int := goneFin (lJ t0 rs asked) asked
def lL (t0 : TaskD) (rs : List (Int × Int)) (asked : Int) : List W3i := goneLeft (lJ t0 rs asked) 0 (rows3 rs)
def lM (t0 t1 : TaskD) (rs : List (Int × Int)) (asked stop : Int) : List LJ := goneJobs t1 1 (lL t0 rs asked) (lB t0 rs asked) stop
def lE (t0 t1 : TaskD) (rs : List (Int × Int)) (asked stop : Int) : Int := goneFin (lM t0 t1 rs asked stop) stop
def lL2 (t0 t1 : TaskD) (rs : List (Int × Int)) (asked stop : Int) : List W3i := goneLeft (lM t0 t1 rs asked stop) (lB t0 rs asked) (lL t0 rs asked)
def optM {α : Type} (st : Option Int) (f : Int → List α) : List α := match st with | none => [] | some x => f x
def optW (st : Option Int) (n : Str) : List (Int × Str) := match st with | none => [] | some x => [(x, n)]
def hsOf (base : Int) (A : Str) (t0 t1 t2 : TaskD) (n0 n1 n2 : Str) (rs : List (Int × Int)) (asked : Int) (st : Option Int) : Hs :=
  ⟨[(n0, [t0]), (n1, [t1]), (n2, [t2])], n0, rs.map fun q => (q.1, A, q.2), (asked, n1) :: optW st n2, base + 2000⟩
structure LawIn (base : Int) (A : Str) (t0 t1 t2 : TaskD) (n0 n1 n2 : Str) (rs : List (Int × Int)) (asked : Int) (st : Option Int) : Prop where
  b0 : 0 ≤ base
  o0 : OneOk t0 ∧ t0.name = A
  o1 : OneOk t1 ∧ t1.name = A
  o2 : OneOk t2 ∧ t2.name ≠ A
  nn : n0 ≠ n1 ∧ n0 ≠ n2 ∧ n1 ≠ n2
  len : rs.length ≤ 12
  wish : ∀ q ∈ rs, base ≤ q.1 ∧ q.1 < base + 40 ∧ 1 ≤ q.2
  when : base ≤ asked ∧ asked < base + 45
  st : ∀ x, st = some x → lB t0 rs asked + 1 ≤ x ∧ x ≤ lB t0 rs asked + 40
section
variable {base : Int} {A : Str} {t0 t1 t2 : TaskD} {n0 n1 n2 : Str} {rs : List (Int × Int)} {asked : Int} {st : Option Int}
theorem rows3_up (h : ∀ q ∈ rs, 0 ≤ q.1) : upTo 0 (rows3 rs) = rows3 rs := by
  unfold upTo rows3
  rw [List.map_map]
  refine List.map_congr_left fun q hq => ?_
  have := h q hq
  show (max q.1 0, q.2, q.1) = (q.1, q.2, q.1)
  rw [show max q.1 0 = q.1 by omega]
theorem ToldIn.first (I : LawIn base A t0 t1 t2 n0 n1 n2 rs asked st) : EraIn t0 (upTo 0 (rows3 rs)) (wishes0 (hsOf base A t0 t1 t2 n0 n1 n2 rs asked st)) 0 ∧ (rows3 rs).length ≤ 12 := by
  have z : ∀ q ∈ rs, 0 ≤ q.1 := fun q hq => by have := (I.wish q hq).1; have := I.b0; omega
  rw [rows3_up z]
  refine ⟨⟨List.Perm.of_eq ?_, fun q hq => ?_, fun q hq => ?_, I.o0.1⟩, by unfold rows3; rw [List.length_map]; exact I.len⟩
  · unfold wishes0 rows3 hsOf
    rw [List.filter_eq_self.mpr fun q hq => by
      obtain ⟨p, hp, rfl⟩ := List.mem_map.mp hq
      have := (I.wish p hp).2.1
      exact decide_eq_true (by show p.1 < base + 2000; omega), List.map_map, List.map_map]
    refine List.map_congr_left fun q _ => ?_
    show (q.1, A, q.2, q.1) = (q.1, t0.name, q.2, q.1)
    rw [I.o0.2]
  · obtain ⟨p, hp, rfl⟩ := List.mem_map.mp hq
    exact z p hp
  · obtain ⟨p, hp, rfl⟩ := List.mem_map.mp hq
    exact (I.wish p hp).2.2
theorem left_mem {J : List LJ} {begun : Int} {rows : List W3i} {q : W3i} (h : q ∈ goneLeft J begun rows) : ∃ p ∈ rows, q = (max p.1 begun, p.2.1, p.2.2) := by
  have h1 := List.mem_of_mem_drop h
  have h2 : q ∈ upTo begun rows := (srt_perm (enc := p3D) (xs := upTo begun rows)).mem_iff.mp h1
  obtain ⟨p, hp, e⟩ := List.mem_map.mp h2
  exact ⟨p, hp, e.symm⟩
theorem left_len {J : List LJ} {begun : Int} {rows : List W3i} : (goneLeft J begun rows).length ≤ rows.length := by
  unfold goneLeft mineL
  rw [List.length_drop, srt_len, List.length_map]
  omega
theorem era_next {t : TaskD} {A : Str} {rows : List W3i} {held : List W4} {begun : Int} (O : OneOk t) (e : t.name = A) (p : held.Perm (rows.map (to4 A))) (hw : ∀ q ∈ rows, 1 ≤ q.2.1) : EraIn t (upTo begun rows) (anewOf begun held) begun := by
  refine ⟨?_, fun q hq => ?_, fun q hq => ?_, O⟩
  · unfold anewOf upTo
    refine (p.map _).trans (List.Perm.of_eq ?_)
    rw [List.map_map, List.map_map, e]
    rfl
  · obtain ⟨p, hp, rfl⟩ := List.mem_map.mp hq
    show begun ≤ max _ _
    omega
  · obtain ⟨p, hp, rfl⟩ := List.mem_map.mp hq
    exact hw p hp
theorem hours_none {h : Hs} {past til : Int} (k : ∀ p ∈ h.wanted, ¬ (past < p.1 ∧ p.1 < til)) : hoursOf h past til = [] := by
  unfold hoursOf
  rw [List.filter_eq_nil_iff.mpr fun y hy => by
    obtain ⟨p, hp, rfl⟩ := List.mem_map.mp hy
    have := k p hp
    simp only [Bool.and_eq_true, decide_eq_true_eq]
    exact this]
  exact srt_nil _
theorem int_sorted {xs : List Int} (h : xs.Pairwise (· ≤ ·)) : srt PyData.int xs = xs := srt_self inj_int (h.imp fun {a b} z => by
  rw [show dataLe false PyData.int = _ from dataLe_int (fun x : Int => x)]
  exact decide_eq_true z)
theorem law_math (I : LawIn base A t0 t1 t2 n0 n1 n2 rs asked st) {s : StS} (T : ToldOf (hsOf base A t0 t1 t2 n0 n1 n2 rs asked st) s) :
    s.lived.map livedD = (lJ t0 rs asked ++ lM t0 t1 rs asked (st.getD (base + 2000))).map ljD ∧
    s.turned = (asked, lB t0 rs asked, n1) :: optM st (fun x => [(x, lE t0 t1 rs asked x, n2)]) ∧
    srt wD s.lost = optM st (fun x => srt wD ((lL2 t0 t1 rs asked x).map fun q => (q.2.2, A, q.2.1))) ∧ (∀ x, st = some x → x < base + 2000) := by
  obtain ⟨E0, r3⟩ := ToldIn.first I
  have b0 := I.b0
  have ha := I.when
  obtain ⟨nn1, nn2, nn3⟩ := I.nn
  have hz : ∀ x, st = some x → lB t0 rs asked + 1 ≤ x ∧ x ≤ lB t0 rs asked + 40 := I.st
  generalize hh : hsOf base A t0 t1 t2 n0 n1 n2 rs asked st = h at T E0
  have hw : h.wanted = (asked, n1) :: optW st n2 := by rw [← hh]; rfl
  have hp : h.plans = [(n0, [t0]), (n1, [t1]), (n2, [t2])] := by rw [← hh]; rfl
  have ht : h.hour = base + 2000 := by rw [← hh]; rfl
  have hf : h.first = n0 := by rw [← hh]; rfl
  have p0 : ∀ ts, (n0, ts) ∈ h.plans → ts = [t0] := fun ts hm => by
    rw [hp] at hm
    simp only [List.mem_cons, List.not_mem_nil, or_false, Prod.mk.injEq] at hm
    rcases hm with ⟨_, z⟩ | ⟨z, _⟩ | ⟨z, _⟩
    · exact z
    · exact absurd z nn1
    · exact absurd z nn2
  have p1 : ∀ ts, (n1, ts) ∈ h.plans → ts = [t1] := fun ts hm => by
    rw [hp] at hm
    simp only [List.mem_cons, List.not_mem_nil, or_false, Prod.mk.injEq] at hm
    rcases hm with ⟨z, _⟩ | ⟨_, z⟩ | ⟨z, _⟩
    · exact absurd z.symm nn1
    · exact z
    · exact absurd z nn3
  have p2 : ∀ ts, (n2, ts) ∈ h.plans → ts = [t2] := fun ts hm => by
    rw [hp] at hm
    simp only [List.mem_cons, List.not_mem_nil, or_false, Prod.mk.injEq] at hm
    rcases hm with ⟨z, _⟩ | ⟨z, _⟩ | ⟨_, z⟩
    · exact absurd z.symm nn2
    · exact absurd z.symm nn3
    · exact z
  have lb0 : asked ≤ lB t0 rs asked := maxI_ge (by simp)
  -- the hours of changes
  have hr0 : ∃ r0, hoursOf h (-1) (base + 2000) = asked :: r0 ∧ ∀ y ∈ r0, st = some y := by
    unfold hoursOf
    rw [hw]
    cases hst : st with
    | none =>
      refine ⟨[], ?_, fun _ h => nomatch h⟩
      show srt PyData.int (List.filter _ [asked]) = [asked]
      rw [List.filter_cons_of_pos (by simp; omega)]
      exact int_sorted (by simp)
    | some x =>
      have := hz x hst
      by_cases xl : x < base + 2000
      · refine ⟨[x], ?_, fun y hy => by rw [List.mem_singleton.mp hy]⟩
        show srt PyData.int (List.filter _ [asked, x]) = [asked, x]
        rw [List.filter_cons_of_pos (by simp; omega), List.filter_cons_of_pos (by simp; omega)]
        exact int_sorted (by simp; omega)
      · refine ⟨[], ?_, fun _ h => nomatch h⟩
        show srt PyData.int (List.filter _ [asked, x]) = [asked]
        rw [List.filter_cons_of_pos (by simp; omega), List.filter_cons_of_neg (by simp; omega)]
        exact int_sorted (by simp)
  obtain ⟨r0, hr0, hr1⟩ := hr0
  unfold ToldOf at T
  rw [ht, hf] at T
  cases T with
  | last _ hh0 => rw [hr0] at hh0; cases hh0
  | stop hm hh0 sw nl hb =>
    rw [hr0] at hh0
    cases hh0
    obtain rfl := p0 _ hm
    obtain ⟨a1, a2, a3, a4, a5⟩ := era_change (k := 0) E0 (by omega) (by omega) (by omega) sw nl
    omega
  | next hm hh0 sw nl hb hn T1 =>
    rw [hr0] at hh0
    cases hh0
    obtain rfl := p0 _ hm
    obtain ⟨a1, a2, a3, a4, a5⟩ := era_change (k := 0) E0 (by omega) (by omega) (by omega) sw nl
    have st0 : strangeOf [t0] (wishes0 h) = [] := E0.own.2
    rw [st0] at T1 a3
    have e2 : goneFin (goneJobs t0 0 (rows3 rs) 0 asked) asked = lB t0 rs asked := rfl
    rw [e2] at a2 a4 a5
    rw [a2] at T1 hn hb
    have lb : lB t0 rs asked ≤ asked + 144 := by omega
    have stlt : ∀ x, st = some x → x < base + 2000 := fun x hx => by have := hz x hx; omega
    -- the next plan's name
    have el : lastOf (asked :: r0) (lB t0 rs asked) = asked := by
      unfold lastOf
      rw [List.filter_cons_of_pos (by simpa using lb0), List.filter_eq_nil_iff.mpr fun y hy => by
        have := hz y (hr1 y hy)
        simp; omega]
      rfl
    rw [el, hw] at hn
    have en : valV (wantedK ((asked, n1) :: optW st n2)) (.inl asked) = some (.str n1) := valV_pos (p := ((.inl asked : Key), V.str n1)) rfl
    rw [en] at hn
    cases hn
    -- the second era
    have a3' : (heldOf [t0] (ownOf [t0] (wishes0 h)) [] asked).Perm ((lL t0 rs asked).map (to4 A)) := by rw [← I.o0.2]; exact a3
    have lmem : ∀ q ∈ lL t0 rs asked, base ≤ q.1 ∧ q.1 < base + 40 ∧ 1 ≤ q.2.1 ∧ q.2.2 < base + 40 := fun q hq => by
      obtain ⟨p, hp, rfl⟩ := left_mem hq
      obtain ⟨r, hr, rfl⟩ := List.mem_map.mp hp
      have := I.wish r hr
      exact ⟨by show base ≤ max r.1 0; omega, by show max r.1 0 < _; omega, this.2.2, this.2.1⟩
    have llen : (lL t0 rs asked).length ≤ 12 := Nat.le_trans left_len r3
    have E1 := era_next (begun := lB t0 rs asked) I.o1.1 I.o1.2 a3' fun q hq => (lmem q hq).2.2.1
    have st1 : strangeOf [t1] (anewOf (lB t0 rs asked) (heldOf [t0] (ownOf [t0] (wishes0 h)) [] asked)) = [] := E1.own.2
    have hr2 : hoursOf h (lB t0 rs asked) (base + 2000) = optM st fun x => [x] := by
      unfold hoursOf
      rw [hw]
      cases hst : st with
      | none =>
        show srt PyData.int (List.filter _ [asked]) = []
        rw [List.filter_cons_of_neg (by simp; omega)]
        exact srt_nil _
      | some x =>
        have := hz x hst
        have := stlt x hst
        show srt PyData.int (List.filter _ [asked, x]) = [x]
        rw [List.filter_cons_of_neg (by simp; omega), List.filter_cons_of_pos (by simp; omega)]
        exact int_sorted (by simp)
    have unk0 : unkOf ([] : List W4) asked = [] := rfl
    rw [unk0] at T1
    cases hst : st with
    | none =>
      rw [hst] at hr2
      cases T1 with
      | stop _ hh1 => rw [hr2] at hh1; cases hh1
      | next _ hh1 => rw [hr2] at hh1; cases hh1
      | last hm1 hh1 sw1 nl1 =>
        obtain rfl := p1 _ hm1
        have c1 := era_last (k := 1) (Y := base + 188) E1 (by omega) (fun q hq => by have := (lmem q hq).2.1; omega) (by omega) sw1 nl1
        refine ⟨?_, rfl, ?_, fun x hx => by cases hx⟩
        · show (([] ++ livedOf (base + 2000) 0 _) ++ livedOf (base + 2000) 1 _).map livedD = _
          rw [List.nil_append, List.map_append, List.map_append, a1, c1]
          rfl
        · show srt wD (([] ++ []) ++ unkOf (strangeOf [t1] _) _) = []
          rw [st1]
          exact srt_nil _
    | some x =>
      rw [hst] at hr2
      have hx := hz x hst
      have hxl := stlt x hst
      cases T1 with
      | last _ hh1 => rw [hr2] at hh1; cases hh1
      | stop hm1 hh1 sw1 nl1 hb1 =>
        rw [hr2] at hh1
        cases hh1
        obtain rfl := p1 _ hm1
        obtain ⟨c1, c2, c3, c4, c5⟩ := era_change (k := 1) E1 (by omega) (by omega) (by omega) sw1 nl1
        omega
      | next hm1 hh1 sw1 nl1 hb1 hn1 T2 =>
        rw [hr2] at hh1
        cases hh1
        obtain rfl := p1 _ hm1
        obtain ⟨c1, c2, c3, c4, c5⟩ := era_change (k := 1) E1 (by omega) (by omega) (by omega) sw1 nl1
        rw [st1] at T2 c3
        have e3 : goneFin (goneJobs t1 1 (lL t0 rs asked) (lB t0 rs asked) x) x = lE t0 t1 rs asked x := rfl
        rw [e3] at c2 c4 c5
        rw [c2] at T2 hn1 hb1
        have el1 : lastOf [x] (lE t0 t1 rs asked x) = x := by
          unfold lastOf
          rw [List.filter_cons_of_pos (by simpa using c4)]
          rfl
        rw [el1, hw, hst] at hn1
        have en1 : valV (wantedK ((asked, n1) :: optW (some x) n2)) (.inl x) = some (.str n2) := by
          show valV [((.inl asked : Key), V.str n1), (.inl x, .str n2)] (.inl x) = _
          rw [valV_neg (by intro z; have := Sum.inl.inj z; omega), valV_pos rfl]
        rw [en1] at hn1
        cases hn1
        -- the third era: all are strangers
        have c3' : (heldOf [t1] (ownOf [t1] (anewOf (lB t0 rs asked) (heldOf [t0] (ownOf [t0] (wishes0 h)) [] asked))) [] x).Perm ((lL2 t0 t1 rs asked x).map (to4 A)) := by rw [← I.o1.2]; exact c3
        have ap : (anewOf (lE t0 t1 rs asked x) (heldOf [t1] (ownOf [t1] (anewOf (lB t0 rs asked) (heldOf [t0] (ownOf [t0] (wishes0 h)) [] asked))) [] x)).Perm ((upTo (lE t0 t1 rs asked x) (lL2 t0 t1 rs asked x)).map (to4 A)) := by
          unfold anewOf upTo
          refine (c3'.map _).trans (List.Perm.of_eq ?_)
          rw [List.map_map, List.map_map]
          rfl
        have hr3 : hoursOf h (lE t0 t1 rs asked x) (base + 2000) = [] := hours_none fun p hp => by
          rw [hw, hst] at hp
          rcases List.mem_cons.mp hp with z | z
          · rw [z]; show ¬ (_ < asked ∧ _); omega
          · rw [List.mem_singleton.mp z]; show ¬ (_ < x ∧ _); omega
        cases T2 with
        | stop _ hh2 => rw [hr3] at hh2; cases hh2
        | next _ hh2 => rw [hr3] at hh2; cases hh2
        | last hm2 hh2 sw2 nl2 =>
          obtain rfl := p2 _ hm2
          obtain ⟨d1, d2⟩ := strange1 (t := t2) (ws := anewOf (lE t0 t1 rs asked x) (heldOf [t1] (ownOf [t1] (anewOf (lB t0 rs asked) (heldOf [t0] (ownOf [t0] (wishes0 h)) [] asked))) [] x)) fun q hq => by
            obtain ⟨z, _, rfl⟩ := List.mem_map.mp (ap.mem_iff.mp hq)
            exact fun e => I.o2.2 e.symm
          have none2 : letOf [t2] [] (base + 2000) = [] := by
            have := letOf1 (t := t2) (own := []) (rows := []) (base + 2000) (List.Perm.refl _)
            rw [this, srt_nil]
            rfl
          rw [d1, none2] at sw2
          have jn := steps_len sw2
          have jn : _ = [] := List.eq_nil_of_length_eq_zero (jn.trans rfl)
          rw [jn]
          refine ⟨?_, rfl, ?_, fun y hy => by cases hy; exact hxl⟩
          · show ((([] ++ livedOf (base + 2000) 0 _) ++ livedOf (base + 2000) 1 _) ++ []).map livedD = _
            rw [List.nil_append, List.append_nil, List.map_append, List.map_append, a1, c1]
            rfl
          · show srt wD ((([] ++ []) ++ unkOf [] x) ++ unkOf (strangeOf [t2] _) (base + 2000)) = srt wD _
            refine srt_congr inj_w3 ?_
            show (unkOf (strangeOf [t2] _) (base + 2000)).Perm _
            unfold unkOf
            refine (((d2.trans ap).filter _).map _).trans (List.Perm.of_eq ?_)
            rw [List.filter_eq_self.mpr fun q hq => ?_, List.map_map]
            · unfold upTo
              rw [List.map_map]
              rfl
            · obtain ⟨z, hz2, rfl⟩ := List.mem_map.mp hq
              obtain ⟨y, hy, rfl⟩ := List.mem_map.mp hz2
              obtain ⟨p, hp, rfl⟩ := left_mem hy
              have := (lmem p hp).2.1
              refine decide_eq_true ?_
              show max (max p.1 (lB t0 rs asked)) (lE t0 t1 rs asked x) < base + 2000
              omega
end
end K7

set_option Elab.async false
set_option linter.all false
set_option maxRecDepth 100000
set_option maxHeartbeats 2000000
namespace Pw
open PySem PySem.Spec PySem.W L2
open PyProof.Rows hiding St
open Evl (sq_of st_of)
variable [Tbs]
section
variable {K : PySem.W.Frag} {te ta tb t0 : TE} {tr : TA} {σ : L2.St} {B B0 H0 H : Hp} {D : Ends} {tz tb' tu tw : TS} {tt : TT} {P0 Pa Pb Pc : Hp → V → Prop} {A : Hp → List V → Prop} {α : Type} {R : Rl α} {as : List α} {x : α} {n : Nat} {sp : Sp} {E : XK} {C a dx : Addr} {m : Str} {fs : List (Str × V)} {vs : List V} {gt : TG} {Q : VK}
theorem evp_ixLs [MonoR R] (h : EvP ta σ B (LsOf K R as)) (hb : EvV tb σ B (.int (n : Int))) (ha : as[n]? = some x) : EvP (tOp (rIxL K) ta tb) σ B (IsR R x) :=
  evp_op h (fun B' e => hb.mono e) fun y z B' e ⟨p, ys, e1, s, it⟩ e2 => by
    cases e2
    subst e1
    obtain ⟨v, hv, rv⟩ := paired_get' it ha
    exact evr_now (v := v) (fun H bh Q q => ⟨p, ys, (n : Int), v, rfl, rfl, sq_of (bh _ _ s), by
      unfold atI
      rw [Evl.ixN_nat (List.getElem?_eq_some_iff.mp hv).1]
      exact hv, q⟩) rv
theorem evv_ixStr {ns : List Str} {y : Str} (h : EvP ta σ B (LsOf K (VR V.str) ns)) (hb : EvV tb σ B (.int (n : Int))) (ha : ns[n]? = some y) : EvV (tOp (rIxL K) ta tb) σ B (.str y) := (evp_ixLs h hb ha).imp fun B' v e h => h
/-- o.m(..), all read of what stands -/
theorem s_methH (t : Tb H) (ho : EvV te σ H (.ref a)) (ha : H a = some (.ins C dx fs)) (l : fs.lookup m = none) (h : ∀ H1, Ex H H1 → EvA tr σ H1 (Iss vs)) (k : ∀ H', Ex H H' → sp (.ref a :: vs) H' Q E) : tMeth C m sp [] E te tr σ H Q := ho H (.refl t) _ fun w B1 H1 g1 e => by
  cases e
  refine ⟨a, dx, fs, rfl, g1.h _ _ ha, l, h H1 g1.h H1 (.refl g1.h.r) _ fun ws B2 H2 g2 e => ?_⟩
  cases e
  show sp (V.ref a :: (vs ++ [])) H2 Q E
  rw [List.append_nil]
  exact k H2 (g1.h.trans g2.h)
theorem q_methH (t : Tb H) (ho : EvV te σ H (.ref a)) (ha : H a = some (.ins C dx fs)) (l : fs.lookup m = none) (h : ∀ H1, Ex H H1 → EvA tr σ H1 (Iss vs)) (k : ∀ H', Ex H H' → sp (.ref a :: vs) H' (fun _ H2 => tz D σ H2) E) : tSeq (tDrop (tMeth C m sp [] E te tr)) tz D σ H :=
  s_methH (Q := fun _ H2 => tz D σ H2) t ho ha l h k
/-- x = [..], a new list of mine -/
theorem q_newLP {i : Nat} (g : Grow B0 H0 B H) (h : EvA tr σ B A) (hz : ∀ B' vs, A B' vs → vs.length ≤ sizeLine) (k : ∀ vs p B' H', Ex B B' → (∀ d u, Cell H0 B H d u → Cell H0 B' H' d u) → H p = none → Grow B0 H0 B' H' → Cell H0 B' H' p (.lst vs) → A B' vs → tz D (σ.set i (some (.ref p))) H') : tSeq (tAsg (tLst tr) (gName i)) tz D σ H :=
  h H g.bh _ fun vs B1 H1 g1 p => ⟨hz _ _ p, fun l hl => k vs l B1 _ g1.b (fun d u cd => (cd.grow g1).new hl) (ex_none g1.h hl) ((g.trans g1).cell hl) (Cell.mk' (g.trans g1) hl) p⟩
/-- if, two ways that come together -/
theorem q_ifJ {Pt : Bool → Prop} (h : ∀ Q : Bool → Hp → Prop, (∀ b B' H', Grow B H B' H' → Pt b → Q b H') → tt σ H Q) (Pv : L2.St → Hp → Prop)
    (h1 : ∀ B' H', Grow B H B' H' → Pt true → ∀ D' : Ends, D'.rt = D.rt → (∀ σ' H2, Pv σ' H2 → D'.nx σ' H2) → tu D' σ H') (h2 : ∀ B' H', Grow B H B' H' → Pt false → ∀ D' : Ends, D'.rt = D.rt → (∀ σ' H2, Pv σ' H2 → D'.nx σ' H2) → tw D' σ H') (k : ∀ σ' H', Pv σ' H' → tz D σ' H') : tSeq (tIfS tt tu tw) tz D σ H :=
  h _ fun b B' H' g p => by
    cases b with
    | true => exact iteT (h1 B' H' g p { D with nx := tz D } rfl k)
    | false => exact iteF (h2 B' H' g p { D with nx := tz D } rfl k)
theorem q_tg3 {i j l : Nat} (g : Grow B0 H0 B H) (h : EvP te σ B (IsU K (ConsP Pa (ConsP Pb (ConsP Pc (Iss [])))))) (k : ∀ u v w B' H', Grow B0 H0 B' H' → Grow B H B' H' → Pa B' u → Pb B' v → Pc B' w → tz D (((σ.set i (some u)).set j (some v)).set l (some w)) H') : tSeq (tAsg te (gTup K 3 (gCons (gName i) (gCons (gName j) (gCons (gName l) gNil))))) tz D σ H :=
  h H g.bh _ fun t B1 H1 g1 ⟨p, xs, ht, sp, ⟨u, _, e1, h1, ⟨v, _, e2, h2, ⟨w, _, e3, h3, e4⟩⟩⟩⟩ => by
    cases e4
    subst e3
    subst e2
    subst e1
    subst ht
    exact evg_tup (B := B1) sp rfl (evgs_cons evg_name (evgs_cons evg_name (evgs_cons evg_name evgs_nil))) H1 g1.bh _ (k u v w B1 H1 (g.trans g1) g1 h1 h2 h3)
theorem q_forN (g : Grow B0 H0 B H) (h : EvP t0 σ B P0) (k : ∀ v B' H', Grow B0 H0 B' H' → Grow B H B' H' → P0 B' v → tSeq (tFor (iRng1 (tCons (tC v) tNil)) gt tb') tz D σ H') : tSeq (tFor (iRng1 (tCons t0 tNil)) gt tb') tz D σ H :=
  h H g.bh _ fun v B' H' g' p => k v B' H' (g.trans g') g' p
/-- a def that is handed things of all kinds -/
theorem q_callSp {i : Nat} (g : Grow B0 H0 B H) (h : EvA tr σ B A) (k : ∀ vs B' H', Grow B0 H0 B' H' → Grow B H B' H' → A B' vs → sp vs H' (fun v H2 => tz D (σ.set i (some v)) H2) E) : tSeq (tAsg (tCall sp [] E tr) (gName i)) tz D σ H :=
  h H g.bh _ fun vs B1 H1 g1 p => by
    show sp (vs ++ []) H1 _ E
    rw [List.append_nil]
    exact k vs B1 H1 (g.trans g1) g1 p
theorem evt_pt {b : Bool} (h : EvT tt σ B b) (bh : Ex B H) (Q : Bool → Hp → Prop) (q : ∀ b' B' H', Grow B H B' H' → b' = b → Q b' H') : tt σ H Q := h H bh Q fun B' H' g => q b B' H' g rfl
theorem evt_any {Pt : Bool → Prop} (h : EvP te σ B (fun _ v => ∃ b, v = .bl b ∧ Pt b)) (bh : Ex B H) (Q : Bool → Hp → Prop) (q : ∀ b' B' H', Grow B H B' H' → Pt b' → Q b' H') : tTest te σ H Q := h H bh _ fun v B1 H1 g ⟨b, e, p⟩ => ⟨b, e, q b B1 H1 g p⟩
end
end Pw

set_option Elab.async false
set_option linter.all false
set_option maxRecDepth 100000
set_option maxHeartbeats 8000000
namespace K7
open PySem PySem.Spec PySem.W L2 Pw
open PyProof.Rows hiding St
open Evl (sq_of st_of)
variable [Tbs]
/-! ### beside the law's own text -/
theorem gone_bound {t : TaskD} {k asked : Int} {rows : List W3i} {begun : Int} (O : OneOk t) (hb : begun ≤ asked) : asked ≤ goneFin (goneJobs t k rows begun asked) asked ∧ goneFin (goneJobs t k rows begun asked) asked ≤ asked + 12 * rows.length := by
  have g0 : 0 ≤ t.gap := by have := O.gap; omega
  have lu : (upTo begun rows).length = rows.length := by unfold upTo; rw [List.length_map]
  refine fin_le (by omega) fun j hj => ?_
  rw [gone_eq, ← core (at_ := k) (c := asked) O.gap.1] at hj
  obtain ⟨x, hx, rfl⟩ := List.mem_map.mp hj
  obtain ⟨f, h1, h2⟩ := fins_le (X := asked) hb (fun y hy => by
    obtain ⟨r, hr, rfl⟩ := List.mem_map.mp hy
    obtain ⟨hr1, hr2⟩ := List.mem_filter.mp hr
    have hr2 := of_decide_eq_true hr2
    obtain ⟨_, _, _, p, hp, _, _, h7⟩ := jobs_ge g0 hr1
    unfold prs at hp
    obtain ⟨q, hq, rfl⟩ := List.mem_map.mp hp
    have := of_decide_eq_true (List.mem_filter.mp hq).2
    refine ⟨?_, ?_⟩
    · show r.rel ≤ asked
      rw [h7]
      show max q.1 _ ≤ _
      omega
    · have := O.most
      show (if true = true then min r.work t.most else _) ≤ 12
      rw [if_pos rfl]
      omega) x hx
  show x.ended.getD 0 ≤ _
  rw [h1]
  have : (((jobsOf t true none 0 (prs ((srt p3D (upTo begun rows)).filter fun q => decide (q.1 < asked)))).filter fun r => decide (r.arr ≤ asked)).map (mkJ t)).length ≤ rows.length := by
    rw [List.length_map]
    refine Nat.le_trans (List.length_filter_le _ _) ?_
    rw [jobsOf_len]
    unfold prs
    rw [List.length_map]
    exact Nat.le_trans (List.length_filter_le _ _) (by rw [srt_len, lu]; exact Nat.le_refl _)
  show f ≤ _
  omega
theorem loGo_names {t : TaskD} {at_ : Int} : ∀ {rows : List W3i} {last : Option Int} {k : Nat} {free : Int} {j : LJ}, j ∈ loGo t at_ last k free rows → j.name = t.name
  | [], _, _, _, _, h => nomatch h
  | q :: rows, _, _, _, j, h => by
    rcases List.mem_cons.mp h with z | z
    · rw [z]
    · exact loGo_names z
theorem gone_names {t : TaskD} {at_ begun asked : Int} {rows : List W3i} {j : LJ} (h : j ∈ goneJobs t at_ rows begun asked) : j.name = t.name := by
  rw [gone_eq] at h
  exact loGo_names (List.mem_filter.mp h).1
theorem gone_len {t : TaskD} {at_ begun asked : Int} {rows : List W3i} : (goneJobs t at_ rows begun asked).length ≤ rows.length := by
  unfold goneJobs loOf
  refine Nat.le_trans (List.length_filter_le _ _) ?_
  rw [loGo_len, srt_len]
  refine Nat.le_trans (List.length_filter_le _ _) ?_
  unfold mineL
  rw [srt_len, List.length_map]
  exact Nat.le_refl _
theorem shaped_list {ds : List PyData} (h : ∀ d ∈ ds, PyData.canLay0 d = true ∧ d.depth ≤ 10) : SeqAt.shaped (.list ds) = true := by
  have h1 : PyData.canLayAll0 ds = true ∧ PyData.depthAll ds ≤ 10 := by
    induction ds with
    | nil => exact ⟨rfl, by simp [PyData.depthAll]⟩
    | cons a r ih =>
      obtain ⟨i1, i2⟩ := ih fun d hd => h d (List.mem_cons_of_mem _ hd)
      obtain ⟨a1, a2⟩ := h a List.mem_cons_self
      refine ⟨?_, ?_⟩
      · show (PyData.canLay0 a && PyData.canLayAll0 r) = true
        rw [a1, i1]
        rfl
      · simp only [PyData.depthAll]
        omega
  unfold SeqAt.shaped
  rw [Bool.and_eq_true]
  refine ⟨h1.1, decide_eq_true ?_⟩
  simp only [PyData.depth]
  omega
theorem shaped_lj {js : List LJ} (h : ∀ j ∈ js, PyData.strOk j.name = true) : SeqAt.shaped (.list (js.map ljD)) = true := shaped_list fun d hd => by
  obtain ⟨j, hj, rfl⟩ := List.mem_map.mp hd
  refine ⟨?_, ?_⟩
  · simp [ljD, PyData.canLay0, PyData.canLayAll0, h j hj]
  · simp [ljD, PyData.depth, PyData.depthAll]
theorem shaped_turn {ts : List (Int × Int × Str)} (h : ∀ j ∈ ts, PyData.strOk j.2.2 = true) : SeqAt.shaped (.list (ts.map turnD)) = true := shaped_list fun d hd => by
  obtain ⟨j, hj, rfl⟩ := List.mem_map.mp hd
  refine ⟨?_, ?_⟩
  · simp [turnD, PyData.canLay0, PyData.canLayAll0, h j hj]
  · simp [turnD, PyData.depth, PyData.depthAll]
theorem shaped_w {ts : List W3} (h : ∀ j ∈ ts, PyData.strOk j.2.1 = true) : SeqAt.shaped (.list (ts.map wD)) = true := shaped_list fun d hd => by
  obtain ⟨j, hj, rfl⟩ := List.mem_map.mp hd
  refine ⟨?_, ?_⟩
  · simp [wD, PyData.canLay0, PyData.canLayAll0, h j hj]
  · simp [wD, PyData.depth, PyData.depthAll]
theorem names2 {ns : List Str} (h : NamesOk 2 ns) : ∃ a b, ns = [a, b] ∧ a ≠ b ∧ isName a = true ∧ isName b = true := by
  obtain ⟨h1, h2, h3⟩ := h
  match ns, h1, h2, h3 with
  | [a, b], _, h2, h3 => exact ⟨a, b, rfl, by simpa using h2, h3 a (by simp), h3 b (by simp)⟩
  | [], h1, _, _ => simp at h1
  | [_], h1, _, _ => simp at h1
  | _ :: _ :: _ :: r, h1, _, _ => simp at h1; omega
theorem names3 {ns : List Str} (h : NamesOk 3 ns) : ∃ a b c, ns = [a, b, c] ∧ a ≠ b ∧ a ≠ c ∧ b ≠ c ∧ isName a = true ∧ isName b = true ∧ isName c = true := by
  obtain ⟨h1, h2, h3⟩ := h
  match ns, h1, h2, h3 with
  | [a, b, c], _, h2, h3 =>
    simp only [List.nodup_cons, List.mem_cons, List.not_mem_nil, or_false, not_or, not_false_eq_true, List.nodup_nil, and_true] at h2
    exact ⟨a, b, c, rfl, h2.1.1, h2.1.2, h2.2, h3 a (by simp), h3 b (by simp), h3 c (by simp)⟩
  | [], h1, _, _ => simp at h1
  | [_], h1, _, _ => simp at h1
  | [_, _], h1, _, _ => simp at h1
  | _ :: _ :: _ :: _ :: r, h1, _, _ => simp at h1; omega
theorem lawIn_good {base : Int} {A : Str} {t0 t1 t2 : TaskD} {n0 n1 n2 : Str} {rs : List (Int × Int)} {asked : Int} {st : Option Int} (I : LawIn base A t0 t1 t2 n0 n1 n2 rs asked st) : HsGood (hsOf base A t0 t1 t2 n0 n1 n2 rs asked st) := by
  refine ⟨⟨fun p hp => ?_, fun p hp => ?_, ?_⟩, by simp [hsOf], ?_, fun q hq => ?_⟩
  · have : p = (n0, [t0]) ∨ p = (n1, [t1]) ∨ p = (n2, [t2]) := by simpa [hsOf] using hp
    rcases this with z | z | z
    · rw [z]; exact OneOk.ts (unlike_one I.o0.1.secs) fun t ht => by rw [List.mem_singleton.mp ht]; exact I.o0.1
    · rw [z]; exact OneOk.ts (unlike_one I.o1.1.secs) fun t ht => by rw [List.mem_singleton.mp ht]; exact I.o1.1
    · rw [z]; exact OneOk.ts (unlike_one I.o2.1.secs) fun t ht => by rw [List.mem_singleton.mp ht]; exact I.o2.1
  · have hp : p ∈ (asked, n1) :: optW st n2 := hp
    show p.2 ∈ [n0, n1, n2]
    rcases List.mem_cons.mp hp with z | z
    · rw [z]; simp
    · cases st with
      | none => cases z
      | some x => rw [List.mem_singleton.mp z]; simp
  · show ((asked, n1) :: optW st n2).length ≤ 1000
    cases st <;> simp [optW]
  · show (rs.map _).length ≤ 100
    rw [List.length_map]
    have := I.len
    omega
  · obtain ⟨r, hr, rfl⟩ := List.mem_map.mp hq
    exact (I.wish r hr).2.2
end K7

set_option Elab.async false
set_option linter.all false
set_option maxRecDepth 100000
set_option maxHeartbeats 20000000
namespace K7
open PySem PySem.Spec PySem.W L2 Pw
open PyProof.Rows hiding St
open Evl (sq_of st_of)
variable [Tbs]
/-! ### the law -/
def R_law (K : PySem.W.Frag) : Hp → List V → (Hp → V → Prop) → Prop := fun B vs P => ∃ (sa : Addr) (ns : List Int), vs = [.ref sa] ∧ SqL K B sa (ns.map V.int) ∧ ns.length ≤ 63 ∧ P = Is (.bl true)
section
variable {P : Program} {w : World} {K : PySem.W.Frag} {mg : Str → Option Value} {base : Heap} {c : Cs} {f : Addr} {fd : FuncData}
theorem ev_called {B B' : Hp} {σ : L2.St} {u : V} {m : Int} {te tm : TE} {E : XK} (hd : DeckAt B u) (e : Ex B B') (hs : EvV te σ B' u) (h1 : 1 ≤ m) (h2 : m ≤ 26) (ht : EvV tm σ B' (.int m)) : EvP (tCall (Pure (R_lawCalled K)) [] E (tCons te (tCons tm tNil))) σ B' (fun B' v => ∃ ns, NamesOk m ns ∧ LsOf K (VR V.str) ns B' v) :=
  evp_call (evas_cons hs (evas_cons ht eva_nil)) fun B2 vs e2 hvs => by
    cases hvs
    exact ⟨u, m, rfl, hd.up (e.trans e2), h1, h2, rfl⟩
theorem ev_one {B B' : Hp} {σ : L2.St} {u : V} {n : Str} {te tm : TE} {E : XK} (hd : DeckAt B u) (e : Ex B B') (hs : EvV te σ B' u) (hn : isName n = true) (ht : EvV tm σ B' (.str n)) : EvP (tCall (Pure (R_lawOne K)) [] E (tCons te (tCons tm tNil))) σ B' (fun B' v => ∃ t, OneOk t ∧ t.name = n ∧ DR K oneD B' v t) :=
  evp_call (evas_cons hs (evas_cons ht eva_nil)) fun B2 vs e2 hvs => by
    cases hvs
    exact ⟨u, n, rfl, hd.up (e.trans e2), hn, rfl⟩
instance {m : Int} : Mono (fun (B' : Hp) (v : V) => ∃ ns, NamesOk m ns ∧ LsOf K (VR V.str) ns B' v) := ⟨fun e ⟨ns, h1, h2⟩ => ⟨ns, h1, Mono.up (P := LsOf K (VR V.str) ns) e h2⟩⟩
instance {n : Str} : Mono (fun (B' : Hp) (v : V) => ∃ t, OneOk t ∧ t.name = n ∧ DR K oneD B' v t) := ⟨fun e ⟨t, h1, h2, h3⟩ => ⟨t, h1, h2, dp_up e h3⟩⟩
def Among (lo hi : Int) : Hp → V → Prop := fun _ v => ∃ x : Int, v = .int x ∧ lo ≤ x ∧ x < hi
instance {lo hi : Int} : Mono (Among lo hi) := ⟨fun _ h => h⟩
/-- a number and a draw -/
theorem ev_plus {B B' : Hp} {σ : L2.St} {u : V} {m x : Int} {te tm tx : TE} {E : XK} (hd : DeckAt B u) (e : Ex B B') (hx : EvV tx σ B' (.int x)) (hs : ∀ B2, Ex B' B2 → EvV te σ B2 u) (h1 : 1 ≤ m) (h2 : m < 1000000) (ht : ∀ B2, Ex B' B2 → EvV tm σ B2 (.int m)) : EvP (tOp (rI0 fun i j => .int (i + j)) tx (tCall (Pure R_lawOf) [] E (tCons te (tCons tm tNil)))) σ B' (Among x (x + m)) :=
  evp_op hx (fun B2 e2 => ev_draw hd (e.trans e2) (hs B2 e2) h1 h2 (ht B2 e2)) fun y z B2 e2 hy ⟨k, hk, k0, k1⟩ => by
    cases hy
    subst hk
    exact evr_now (v := .int (x + k)) (fun H bh Q q => ⟨x, k, rfl, rfl, q⟩) ⟨x + k, rfl, by omega, by omega⟩
theorem ls_up {α : Type} {R : Rl α} [MonoR R] {as : List α} {B B' : Hp} {v : V} (e : Ex B B') (h : LsOf K R as B v) : LsOf K R as B' v := Mono.up (P := LsOf K R as) e h
abbrev s_law : Stmt := top 51
theorem sc_law : FnScope ["script", "deck", "bout", "some", "names", "base", "old", "new", "other", "house", "many", "rows", "k", "asked", "stop", "lost", "jobs", "begun", "left", "changes", "more", "last", "row"] ["script"] (defScope s_law) := ⟨rfl, rfl, rfl, by decide +kernel, rfl, by decide +kernel, by decide +kernel⟩
/- slots: 0=script 1=deck 2=bout 3=some 4=names 5=base 6=old 7=new 8=other 9=house 10=many 11=rows 12=k 13=asked 14=stop 15=lost 16=jobs 17=begun 18=left 19=changes 20=more 21=last 22=row -/
theorem ok_law (F : Fun K "law" "law" s_law f fd) (T : Txt K mg c) (G__law_deck : Gf P w K mg base 1 "_law_deck" ["script"] [] (Pure (R_lawDeck K))) (G__law_of : Gf P w K mg base 1 "_law_of" ["deck", "many"] [] (Pure R_lawOf)) (G__law_called : Gf P w K mg base 2 "_law_called" ["deck", "many"] [] (Pure (R_lawCalled K)))
    (G__law_one : Gf P w K mg base 2 "_law_one" ["deck", "name"] [] (Pure (R_lawOne K))) (G__law_house : Gf P w K mg base 9 "_law_house" ["plans", "first"] [] (spLawHouse K c)) (G__law_gone_on : Gf P w K mg base 2 "_law_gone_on" ["one", "at", "rows", "begun", "asked"] [] (Pure (R_lawGone K)))
    (G_House_wish : Gm P w K mg base 2 c.House "wish" ["self", "hour", "task", "work"] [] (spWish K c)) (G_House_change : Gm P w K mg base 2 c.House "change" ["self", "hour", "name"] [] (spChange K c)) (G_House_run : Gm P w K mg base 2 c.House "run" ["self", "hour"] [] (spRun K c))
    (G_House_jobs : Gm P w K mg base 12 c.House "jobs" ["self"] [] (Pure (R_houseOf K c (F_jobs K)))) (G_House_changes : Gm P w K mg base 12 c.House "changes" ["self"] [] (Pure (R_houseOf K c (F_changes K)))) (G_House_dropped : Gm P w K mg base 12 c.House "dropped" ["self"] [] (Pure (R_houseOf K c (F_dropped K)))) :
    FnOk P w K mg base CX0 13 f fd ["script"] (Pure (R_law K)) := by
  refine pure_ok F sc_law (fun B vs P' ⟨sa, ns, h, _⟩ => by rw [h]; rfl) fun cdv A outer s H0 E hr => ?_
  have hu := hu_of hr
  refine ⟨_, (pss_cons (ps_set (i := 1) sc_law.nd rfl (by first | exact Or.inl rfl | exact Or.inr rfl) (pe_g G__law_deck (hr.mono (by decide)) (by rfl) (pa_cons (pv 0) pa_nil)))
        (pss_cons (ps_for PassesOwn.never rfl (pi_range1 (by rfl) T.b_range (pa_cons pe_int pa_nil)) (pg_name (i := 2) sc_law.nd rfl (by first | exact Or.inl rfl | exact Or.inr rfl))
        (pss_cons (ps_asg (pe_tup (pa_cons (pe_g G__law_called (hr.mono (by decide)) (by rfl) (pa_cons (pv 1) (pa_cons pe_int pa_nil))) (pa_cons (pe_g G__law_called (hr.mono (by decide)) (by rfl) (pa_cons (pv 1) (pa_cons pe_int pa_nil))) (pa_cons (pe_op op_mul (pe_g G__law_of (hr.mono (by decide)) (by rfl) (pa_cons (pv 1) (pa_cons pe_int pa_nil))) (pe_op op_pow pe_int pe_int)) pa_nil)))) (pg_tup (by rfl) (pgs_cons (pg_name (i := 3) sc_law.nd rfl (by first | exact Or.inl rfl | exact Or.inr rfl)) (pgs_cons (pg_name (i := 4) sc_law.nd rfl (by first | exact Or.inl rfl | exact Or.inr rfl)) (pgs_cons (pg_name (i := 5) sc_law.nd rfl (by first | exact Or.inl rfl | exact Or.inr rfl)) pgs_nil)))))
        (pss_cons (ps_par3 (by rfl) sc_law.nd (i := 6) (j := 7) (l := 8) rfl rfl rfl (by decide) (by decide) (by decide) rfl rfl rfl (pa_cons (pe_g G__law_one (hr.mono (by decide)) (by rfl) (pa_cons (pv 1) (pa_cons (pe_ix ix_list (pv 3) pe_int (fun _ _ => rfl)) pa_nil))) (pa_cons (pe_g G__law_one (hr.mono (by decide)) (by rfl) (pa_cons (pv 1) (pa_cons (pe_ix ix_list (pv 3) pe_int (fun _ _ => rfl)) pa_nil))) (pa_cons (pe_g G__law_one (hr.mono (by decide)) (by rfl) (pa_cons (pv 1) (pa_cons (pe_ix ix_list (pv 3) pe_int (fun _ _ => rfl)) pa_nil))) pa_nil))) (by rfl))
        (pss_cons (ps_set (i := 9) sc_law.nd rfl (by first | exact Or.inl rfl | exact Or.inr rfl) (pe_g G__law_house (hr.mono (by decide)) (by rfl) (pa_cons (pe_fz (pe_callTy (call_dictP rfl) (by rfl) T.b_dict (by decide +kernel) (pa_cons (pe_lst (pa_cons (pe_tup (pa_cons (pe_ix ix_list (pv 4) pe_int (fun _ _ => rfl)) (pa_cons (pe_lst (pa_cons (pv 6) pa_nil)) pa_nil))) (pa_cons (pe_tup (pa_cons (pe_ix ix_list (pv 4) pe_int (fun _ _ => rfl)) (pa_cons (pe_lst (pa_cons (pv 7) pa_nil)) pa_nil))) (pa_cons (pe_tup (pa_cons (pe_ix ix_list (pv 4) pe_int (fun _ _ => rfl)) (pa_cons (pe_lst (pa_cons (pv 8) pa_nil)) pa_nil))) pa_nil)))) pa_nil))) (pa_cons (pe_ix ix_list (pv 4) pe_int (fun _ _ => rfl)) pa_nil))))
        (pss_cons (ps_par (by rfl) sc_law.nd (i := 10) (j := 11) rfl rfl (by decide) rfl rfl (pa_cons (pe_ix ix_list (pe_lst (pa_cons pe_int (pa_cons pe_int pa_nil))) (pe_g G__law_of (hr.mono (by decide)) (by rfl) (pa_cons (pv 1) (pa_cons pe_int pa_nil))) (fun _ _ => rfl)) (pa_cons (pe_lst pa_nil) pa_nil)) (by rfl))
        (pss_cons (ps_for PassesOwn.never rfl (pi_range1 (by rfl) T.b_range (pa_cons (pe_op op_add pe_int (pe_g G__law_of (hr.mono (by decide)) (by rfl) (pa_cons (pv 1) (pa_cons pe_int pa_nil)))) pa_nil)) (pg_name (i := 12) sc_law.nd rfl (by first | exact Or.inl rfl | exact Or.inr rfl))
        (pss_cons (ps_expr (pe_bm PySem.F.plainAttrs_list PySem.F.slot_list_append PySem.F.type_list_append mt_append (pv 11) (pa_cons (pe_tup (pa_cons (pe_op op_add (pv 5) (pe_g G__law_of (hr.mono (by decide)) (by rfl) (pa_cons (pv 1) (pa_cons pe_int pa_nil)))) (pa_cons (pe_op op_add pe_int (pe_g G__law_of (hr.mono (by decide)) (by rfl) (pa_cons (pv 1) (pa_cons (pv 10) pa_nil)))) pa_nil))) pa_nil)))
        (pss_one (ps_expr (pe_gm (pv 9) T.c_House G_House_wish (hr.mono (by decide)) (pa_cons (pe_ix ix_tup (pe_ix ix_list (pv 11) (pe_un un_neg pe_int) (fun _ _ => rfl)) pe_int (fun _ _ => rfl)) (pa_cons (pe_ix ix_list (pv 3) pe_int (fun _ _ => rfl)) (pa_cons (pe_ix ix_tup (pe_ix ix_list (pv 11) (pe_un un_neg pe_int) (fun _ _ => rfl)) pe_int (fun _ _ => rfl)) pa_nil))))))))
        (pss_cons (ps_par3 (by rfl) sc_law.nd (i := 13) (j := 14) (l := 15) rfl rfl rfl (by decide) (by decide) (by decide) rfl rfl rfl (pa_cons (pe_op op_add (pv 5) (pe_g G__law_of (hr.mono (by decide)) (by rfl) (pa_cons (pv 1) (pa_cons pe_int pa_nil)))) (pa_cons (pe_op op_add (pv 5) pe_int) (pa_cons (pe_lst pa_nil) pa_nil))) (by rfl))
        (pss_cons (ps_expr (pe_gm (pv 9) T.c_House G_House_change (hr.mono (by decide)) (pa_cons (pv 13) (pa_cons (pe_ix ix_list (pv 4) pe_int (fun _ _ => rfl)) pa_nil))))
        (pss_cons (ps_asg (pe_g G__law_gone_on (hr.mono (by decide)) (by rfl) (pa_cons (pv 6) (pa_cons pe_int (pa_cons (pe_lc (own := [("row", 22)]) rfl sc_law.nd (pi_list (pv 11)) (blkOk_by (N := ["script", "deck", "bout", "some", "names", "base", "old", "new", "other", "house", "many", "rows", "k", "asked", "stop", "lost", "jobs", "begun", "left", "changes", "more", "last", "row"]) (sc := defScope s_law) (by decide +kernel)) (fun _ _ _ _ _ => (pg_name (i := 22) sc_law.nd rfl (by first | exact Or.inl rfl | exact Or.inr rfl))) (fun _ _ _ _ _ => pts_nil) (fun _ _ _ _ _ => (pe_op (op_catTK (K := K) rfl) (pv 22) (pe_tup (pa_cons (pe_ix (ix_tupK (K := K) rfl) (pv 22) pe_int (fun _ _ => rfl)) pa_nil))))) (pa_cons pe_int (pa_cons (pv 13) pa_nil)))))) (pg_tup (by rfl) (pgs_cons (pg_name (i := 16) sc_law.nd rfl (by first | exact Or.inl rfl | exact Or.inr rfl)) (pgs_cons (pg_name (i := 17) sc_law.nd rfl (by first | exact Or.inl rfl | exact Or.inr rfl)) (pgs_cons (pg_name (i := 18) sc_law.nd rfl (by first | exact Or.inl rfl | exact Or.inr rfl)) pgs_nil)))))
        (pss_cons (ps_set (i := 19) sc_law.nd rfl (by first | exact Or.inl rfl | exact Or.inr rfl) (pe_lst (pa_cons (pe_tup (pa_cons (pv 13) (pa_cons (pv 17) (pa_cons (pe_ix ix_list (pv 4) pe_int (fun _ _ => rfl)) pa_nil)))) pa_nil)))
        (pss_cons (ps_if (pt_cmpR op_gt (pe_g G__law_of (hr.mono (by decide)) (by rfl) (pa_cons (pv 1) (pa_cons pe_int pa_nil))) pe_int (nomark _)) (pss_cons (ps_set (i := 14) sc_law.nd rfl (by first | exact Or.inl rfl | exact Or.inr rfl) (pe_op op_add (pe_op op_add (pv 17) pe_int) (pe_g G__law_of (hr.mono (by decide)) (by rfl) (pa_cons (pv 1) (pa_cons pe_int pa_nil)))))
        (pss_one (ps_expr (pe_gm (pv 9) T.c_House G_House_change (hr.mono (by decide)) (pa_cons (pv 14) (pa_cons (pe_ix ix_list (pv 4) pe_int (fun _ _ => rfl)) pa_nil)))))) pss_nil)
        (pss_cons (ps_asg (pe_g G__law_gone_on (hr.mono (by decide)) (by rfl) (pa_cons (pv 7) (pa_cons pe_int (pa_cons (pv 18) (pa_cons (pv 17) (pa_cons (pv 14) pa_nil)))))) (pg_tup (by rfl) (pgs_cons (pg_name (i := 20) sc_law.nd rfl (by first | exact Or.inl rfl | exact Or.inr rfl)) (pgs_cons (pg_name (i := 21) sc_law.nd rfl (by first | exact Or.inl rfl | exact Or.inr rfl)) (pgs_cons (pg_name (i := 18) sc_law.nd rfl (by first | exact Or.inl rfl | exact Or.inr rfl)) pgs_nil)))))
        (pss_cons (ps_if (pt_cmpR op_lt (pv 14) (pe_op op_add (pv 5) pe_int) (nomark _)) (pss_cons (ps_expr (pe_bm PySem.F.plainAttrs_list PySem.F.slot_list_append PySem.F.type_list_append mt_append (pv 19) (pa_cons (pe_tup (pa_cons (pv 14) (pa_cons (pv 21) (pa_cons (pe_ix ix_list (pv 4) pe_int (fun _ _ => rfl)) pa_nil)))) pa_nil)))
        (pss_one (ps_set (i := 15) sc_law.nd rfl (by first | exact Or.inl rfl | exact Or.inr rfl) (pe_callB (call_sortedDat hr.units) (by rfl) T.b_sorted (by decide +kernel) (pa_cons (pe_lc (own := [("row", 22)]) rfl sc_law.nd (pi_list (pv 18)) (blkOk_by (N := ["script", "deck", "bout", "some", "names", "base", "old", "new", "other", "house", "many", "rows", "k", "asked", "stop", "lost", "jobs", "begun", "left", "changes", "more", "last", "row"]) (sc := defScope s_law) (by decide +kernel)) (fun _ _ _ _ _ => (pg_name (i := 22) sc_law.nd rfl (by first | exact Or.inl rfl | exact Or.inr rfl))) (fun _ _ _ _ _ => pts_nil) (fun _ _ _ _ _ => (pe_tup (pa_cons (pe_ix (ix_tupK (K := K) rfl) (pv 22) pe_int (fun _ _ => rfl)) (pa_cons (pe_ix (ix_listK (K := K) rfl) (pv 3) pe_int (fun _ _ => rfl)) (pa_cons (pe_ix (ix_tupK (K := K) rfl) (pv 22) pe_int (fun _ _ => rfl)) pa_nil)))))) pa_nil))))) pss_nil)
        (pss_cons (ps_expr (pe_gm (pv 9) T.c_House G_House_run (hr.mono (by decide)) (pa_cons (pe_op op_add (pv 5) pe_int) pa_nil)))
        (pss_one (ps_if (PW.pt (pw_or (pt_cmpR (op_neD hr.units) (pe_gm0 (pv 9) T.c_House G_House_jobs (hr.mono (by decide))) (pe_op op_cat (pv 16) (pv 20)) (nomark _)) (pw_or (pt_cmpR (op_neD hr.units) (pe_gm0 (pv 9) T.c_House G_House_changes (hr.mono (by decide))) (pv 19) (nomark _)) (pw_or1 (pt_cmpR (op_neD hr.units) (pe_gm0 (pv 9) T.c_House G_House_dropped (hr.mono (by decide))) (pv 15) (nomark _)))))) (pss_one (ps_ret pe_bl)) pss_nil))))))))))))))))
        (pss_one (ps_ret pe_bl)))), fun B vs P' ⟨sa, ns, hv, hs, hn, hP⟩ => ?_⟩
  subst hv hP
  refine fun H bh D r n => ?_
  refine q_asg (σ := [some (.ref sa), none, none, none, none, none, none, none, none, none, none, none, none, none, none, none, none, none, none, none, none, none, none]) (Pv := DeckAt) (Grow.refl bh) (evp_call (evas_cons (evv_var (i := 0) rfl) eva_nil) fun B' vs e hvs => by
    cases hvs
    exact ⟨sa, ns, rfl, ex_l e hs, hn, rfl⟩) fun dv B1 H1 g1 g1' hd => ?_
  refine q_forI (σ := [some (.ref sa), some dv, none, none, none, none, none, none, none, none, none, none, none, none, none, none, none, none, none, none, none, none, none]) (R := VR fun i : Nat => V.int i) (evi_rng1 (n := 4) (evas_cons evv_c eva_nil) ⟨by decide, by decide⟩) g1.bh (fun i σ' B' H' => ∃ (y2 y3 y4 y5 y6 y7 y8 y9 y10 y11 y12 y13 y14 y15 y16 y17 y18 y19 y20 y21 y22 : Option V), σ' = [some (.ref sa), some dv, y2, y3, y4, y5, y6, y7, y8, y9, y10, y11, y12, y13, y14, y15, y16, y17, y18, y19, y20, y21, y22] ∧ Grow B H B' H') (fun B2 H2 g2 => ⟨none, none, none, none, none, none, none, none, none, none, none, none, none, none, none, none, none, none, none, none, none, rfl, g1.trans g2⟩) ?_ ?_
  · rintro i k v σ' B2 H2 B3 H3 eb bh' hi ⟨y2, y3, y4, y5, y6, y7, y8, y9, y10, y11, y12, y13, y14, y15, y16, y17, y18, y19, y20, y21, y22, rfl, gr2⟩ g3 hR
    subst hR
    have gr := gr2.trans g3
    have hd3 : DeckAt B3 dv := hd.up (eb.trans g3.b)
    refine (evg_name (B := B3)) H3 g3.bh _ ?_
    haveI : Mono (fun (_ : Hp) (v : V) => ∃ x : Int, v = .int x ∧ (x = 0 ∨ x = 10000000000)) := ⟨fun _ h => h⟩
    refine q_tg3 (σ := [some (.ref sa), some dv, some (.int (k : Nat)), y3, y4, y5, y6, y7, y8, y9, y10, y11, y12, y13, y14, y15, y16, y17, y18, y19, y20, y21, y22]) (Pa := fun B' v => ∃ ns, NamesOk 2 ns ∧ LsOf K (VR V.str) ns B' v) (Pb := fun B' v => ∃ ns, NamesOk 3 ns ∧ LsOf K (VR V.str) ns B' v) (Pc := fun _ v => ∃ x : Int, v = .int x ∧ (x = 0 ∨ x = 10000000000)) gr
      (evp_tup (eva_cons (ev_called hd3 (.refl g3.bh.l) (evv_var (i := 1) rfl) (by decide) (by decide) evv_c) fun B' e => eva_cons (ev_called hd3 e (evv_var (i := 1) rfl) (by decide) (by decide) evv_c) fun B'' e' => eva_cons (evp_op (ev_draw hd3 (e.trans e') (evv_var (i := 1) rfl) (m := 2) (by decide) (by decide) evv_c) (fun B4 e4 => evv_pow evv_c evv_c ⟨by decide, by decide, by decide⟩) fun x y B4 e4 ⟨q, hq, q0, q1⟩ hy => ?_) fun B4 e4 => eva_nil)
        fun B' vs ⟨_, _, h1, _, ⟨_, _, h2, _, ⟨_, _, h3, _, h4⟩⟩⟩ => by cases h4; subst h3; subst h2; subst h1; exact (by decide : 3 ≤ sizeLine)) fun sv nv bv B4 H4 g4 g4' ⟨ns2, hn2, hsl⟩ ⟨ns3, hn3, hnl⟩ ⟨b, hb, hb2⟩ => ?_
    · cases hy
      subst hq
      exact evr_now (v := .int (q * 10 ^ (10 : Int).toNat)) (fun H bh Q qq => ⟨q, _, rfl, rfl, .inl ⟨by omega, by omega⟩, qq⟩) ⟨_, rfl, by
        rcases (show q = 0 ∨ q = 1 by omega) with z | z
        · subst z; exact .inl (by decide)
        · subst z; exact .inr (by decide)⟩
    subst hb
    obtain ⟨s0, s1, rfl, ns01, is0, is1⟩ := names2 hn2
    obtain ⟨n0, n1, n2, rfl, nn1, nn2, nn3, in0, in1, in2⟩ := names3 hn3
    have e4 : Ex B3 B4 := g4'.b
    have b0 : 0 ≤ b := by omega
    -- old, new, other
    refine q_par3 (σ := [some (.ref sa), some dv, some (.int (k : Nat)), some sv, some nv, some (.int b), y6, y7, y8, y9, y10, y11, y12, y13, y14, y15, y16, y17, y18, y19, y20, y21, y22]) (Pa := fun B' v => ∃ t, OneOk t ∧ t.name = s0 ∧ DR K oneD B' v t) (Pb := fun B' v => ∃ t, OneOk t ∧ t.name = s0 ∧ DR K oneD B' v t) (Pc := fun B' v => ∃ t, OneOk t ∧ t.name = s1 ∧ DR K oneD B' v t) g4
      (eva_cons (ev_one hd3 e4 (evv_var (i := 1) rfl) is0 (evv_ixStr (n := 0) (evp_var (i := 3) rfl hsl) evv_c rfl)) fun B' e => eva_cons (ev_one hd3 (e4.trans e) (evv_var (i := 1) rfl) is0 (evv_ixStr (n := 0) (evp_var (i := 3) rfl (ls_up e hsl)) evv_c rfl)) fun B'' e' => eva_cons (ev_one hd3 ((e4.trans e).trans e') (evv_var (i := 1) rfl) is1 (evv_ixStr (n := 1) (evp_var (i := 3) rfl (ls_up (e.trans e') hsl)) evv_c rfl)) fun B4 e4 => eva_nil)
      fun o0 o1 o2 B5 H5 g5 g5' ⟨t0, ok0, tn0, d0⟩ ⟨t1, ok1, tn1, d1⟩ ⟨t2, ok2, tn2, d2⟩ => ?_
    have e5 : Ex B4 B5 := g5'.b
    have hnl5 := ls_up e5 hnl
    have hsl5 := ls_up e5 hsl
    -- house
    have hdict : EvP (tFz (tCB (fun xs H Q => ∃ (a : Addr) (ps : List Addr) (kvs : List (Key × V)), xs = [.ref a] ∧ SqL K H a (ps.map V.ref) ∧ Paired (fun p kv => SqT K H p [kV kv.1, kv.2]) ps kvs ∧ ∀ p, H p = none → Q (.ref p) (upd H p (.dK (mergeK [] kvs)))) (tCons (tLst (tCons (tTup (tCons (tOp (rIxL K) (tVar 4) (tC (.int 0))) (tCons (tLst (tCons (tVar 6) tNil)) tNil))) (tCons (tTup (tCons (tOp (rIxL K) (tVar 4) (tC (.int 1))) (tCons (tLst (tCons (tVar 7) tNil)) tNil))) (tCons (tTup (tCons (tOp (rIxL K) (tVar 4) (tC (.int 2))) (tCons (tLst (tCons (tVar 8) tNil)) tNil))) tNil)))) tNil)))
        [some (.ref sa), some dv, some (.int (k : Nat)), some sv, some nv, some (.int b), some o0, some o1, some o2, y9, y10, y11, y12, y13, y14, y15, y16, y17, y18, y19, y20, y21, y22] B5 (FzMap (OnesR K) [(n0, [t0]), (n1, [t1]), (n2, [t2])]) := by
      have one : ∀ (B' : Hp) (j m : Nat) (n : Str) (t : TaskD) (ov : V), Ex B5 B' → ([some (.ref sa), some dv, some (.int (k : Nat)), some sv, some nv, some (.int b), some o0, some o1, some o2, y9, y10, y11, y12, y13, y14, y15, y16, y17, y18, y19, y20, y21, y22] : L2.St)[j]? = some (some ov) → DR K oneD B5 ov t → ([n0, n1, n2] : List Str)[m]? = some n → EvP (tTup (tCons (tOp (rIxL K) (tVar 4) (tC (.int (m : Nat)))) (tCons (tLst (tCons (tVar j) tNil)) tNil))) [some (.ref sa), some dv, some (.int (k : Nat)), some sv, some nv, some (.int b), some o0, some o1, some o2, y9, y10, y11, y12, y13, y14, y15, y16, y17, y18, y19, y20, y21, y22] B' (IsR (PrR K (OnesR K)) (n, [t])) := fun B' j m n t ov e hj ho hm => by
        refine EvP.imp (evp_tup (K := K) (A := ConsP (Is (.str n)) (ConsP (LsOf K (DR K oneD) [t]) (Iss []))) (eva_cons (evv_ixStr (n := m) (evp_var (i := 4) rfl (ls_up e hnl5)) evv_c hm) fun B2 e2 => eva_cons (P := LsOf K (DR K oneD) [t]) (EvP.imp (evp_lst (K := K) (A := ConsP (IsR (DR K oneD) t) (Iss [])) (eva_cons (evp_var (P := IsR (DR K oneD) t) hj (dp_up (e.trans e2) ho)) fun B3 e3 => eva_nil) fun B' vs ⟨_, _, h1, _, h2⟩ => by cases h2; subst h1; exact (by decide : 1 ≤ sizeLine)) fun B3 v e3 ⟨p, xs, h1, h2, ⟨y, _, h3, h4, h5⟩⟩ => by
          cases h5
          subst h3
          exact ⟨p, _, h1, h2, .cons h4 .nil⟩) fun B3 e3 => eva_nil) fun B' vs ⟨_, _, h1, _, ⟨_, _, h2, _, h3⟩⟩ => by cases h3; subst h2; subst h1; exact (by decide : 2 ≤ sizeLine)) fun B2 v e2 ⟨p, xs, h1, h2, ⟨_, _, h3, h4, ⟨y, _, h5, h6, h7⟩⟩⟩ => ?_
        cases h7
        cases h4
        subst h5
        subst h3
        exact ⟨p, y, h1, h2, h6⟩
      refine evp_dictP (EvP.imp (evp_lst (K := K) (A := ConsP (IsR (PrR K (OnesR K)) (n0, [t0])) (ConsP (IsR (PrR K (OnesR K)) (n1, [t1])) (ConsP (IsR (PrR K (OnesR K)) (n2, [t2])) (Iss [])))) (eva_cons (one B5 6 0 n0 t0 o0 (.refl g5.bh.l) rfl d0 rfl) fun B' e => eva_cons (one B' 7 1 n1 t1 o1 e rfl d1 rfl) fun B'' e' => eva_cons (one B'' 8 2 n2 t2 o2 (e.trans e') rfl d2 rfl) fun B3 e3 => eva_nil)
        fun B' vs ⟨_, _, h1, _, ⟨_, _, h2, _, ⟨_, _, h3, _, h4⟩⟩⟩ => by cases h4; subst h3; subst h2; subst h1; exact (by decide : 3 ≤ sizeLine)) fun B2 v e2 ⟨p, xs, h1, h2, ⟨_, _, h3, h4, ⟨_, _, h5, h6, ⟨_, _, h7, h8, h9⟩⟩⟩⟩ => ?_) (by simp [nn1, nn2, nn3])
      cases h9
      subst h7
      subst h5
      subst h3
      exact ⟨p, _, h1, h2, .cons h4 (.cons h6 (.cons h8 .nil))⟩
    refine q_callSp (σ := [some (.ref sa), some dv, some (.int (k : Nat)), some sv, some nv, some (.int b), some o0, some o1, some o2, y9, y10, y11, y12, y13, y14, y15, y16, y17, y18, y19, y20, y21, y22]) (A := ConsP (FzMap (OnesR K) [(n0, [t0]), (n1, [t1]), (n2, [t2])]) (Iss [.str n0])) g5 (eva_cons hdict fun B' e => evas_cons (evv_ixStr (n := 0) (evp_var (i := 4) rfl (ls_up e hnl5)) evv_c rfl) eva_nil) fun vs B6 H6 g6 g6' ⟨pv, _, h1, hpv, h2⟩ => ?_
    cases h2
    subst h1
    refine ⟨B6, pv, n0, _, rfl, g6.bh, hpv, by simp [nn1, nn2, nn3], by simp, fun p hp => ?_, by simp, fun B7 H7 ha g7' hc7' => ?_⟩
    · have : p = (n0, [t0]) ∨ p = (n1, [t1]) ∨ p = (n2, [t2]) := by simpa using hp
      rcases this with z | z | z
      · rw [z]; exact ⟨unlike_one ok0.secs, fun t ht => by rw [List.mem_singleton.mp ht]; exact ok0⟩
      · rw [z]; exact ⟨unlike_one ok1.secs, fun t ht => by rw [List.mem_singleton.mp ht]; exact ok1⟩
      · rw [z]; exact ⟨unlike_one ok2.secs, fun t ht => by rw [List.mem_singleton.mp ht]; exact ok2⟩
    have g7 := g6.trans g7'
    have hc7 := hc7'.down g6.h
    have e7 : Ex B5 B7 := g6'.b.trans g7'.b
    -- many, rows
    haveI : Mono (fun (_ : Hp) (v : V) => ∃ x : Int, v = .int x ∧ 1 ≤ x ∧ x ≤ 15) := ⟨fun _ h => h⟩
    have hd7 : DeckAt B7 dv := hd3.up (e4.trans (e5.trans e7))
    refine q_parNL (σ := [some (.ref sa), some dv, some (.int (k : Nat)), some sv, some nv, some (.int b), some o0, some o1, some o2, some (.ref ha.x), y10, y11, y12, y13, y14, y15, y16, y17, y18, y19, y20, y21, y22]) (P := fun _ v => ∃ x : Int, v = .int x ∧ 1 ≤ x ∧ x ≤ 15) g7 (evp_op (Pa := IsL K (Iss ([15, 2].map V.int))) (evp_lst (A := Iss ([15, 2].map V.int)) (evas_cons evv_c (evas_cons evv_c eva_nil)) fun B' vs e => by cases e; exact (by decide : 2 ≤ sizeLine)) (fun B' e => ev_draw hd7 e (evv_var (i := 1) rfl) (m := 2) (by decide) (by decide) evv_c) fun x y B' e ⟨p, ys, hx, hp, hys⟩ ⟨q, hq, q0, q1⟩ => ?_) fun mv rl B8 H8 e8 keep8 nrl g8 c8 ⟨many, hm, m1, m15⟩ => ?_
    · cases hys
      subst hx hq
      rcases (show q = 0 ∨ q = 1 by omega) with z | z
      · subst z
        exact evr_now (v := .int 15) (fun H bh Q qq => ⟨p, _, 0, .int 15, rfl, rfl, sq_of (bh _ _ hp), rfl, qq⟩) ⟨15, rfl, by decide, by decide⟩
      · subst z
        exact evr_now (v := .int 2) (fun H bh Q qq => ⟨p, _, 1, .int 2, rfl, rfl, sq_of (bh _ _ hp), rfl, qq⟩) ⟨2, rfl, by decide, by decide⟩
    subst hm
    have hc8 := hc7.keep e8 keep8
    have nx : ∀ {d : Addr} {u : HO}, Cell H B7 H7 d u → d ≠ rl := fun cd z => by rw [z] at cd; rw [cd.at_] at nrl; cases nrl
    obtain ⟨nrx, nrl', nrw⟩ : ha.x ≠ rl ∧ ha.l ≠ rl ∧ ha.w ≠ rl := by
      obtain ⟨⟨_, _, q1, _⟩, ⟨_, q2, _⟩, q3⟩ := id hc7
      exact ⟨nx q1, nx q2, nx q3⟩
    have hd8 := hd7.up e8
    have hsl8 := ls_up (e7.trans e8) hsl5
    -- the wishes
    refine q_forN (σ := [some (.ref sa), some dv, some (.int (k : Nat)), some sv, some nv, some (.int b), some o0, some o1, some o2, some (.ref ha.x), some (.int many), some (.ref rl), y12, y13, y14, y15, y16, y17, y18, y19, y20, y21, y22]) (P0 := Among 1 13) g8 (ev_plus hd8 (.refl g8.bh.l) evv_c (fun _ _ => evv_var (i := 1) rfl) (by decide) (by decide) fun _ _ => evv_c) fun v9 B9 H9 g9 g9' ⟨cnt, hcnt, cn1, cn12⟩ => ?_
    subst hcnt
    have hc9 := hc8.keep g9'.b fun d u cd => cd.grow g9'
    have c9 := c8.grow g9'
    refine q_forI (σ := [some (.ref sa), some dv, some (.int (k : Nat)), some sv, some nv, some (.int b), some o0, some o1, some o2, some (.ref ha.x), some (.int many), some (.ref rl), y12, y13, y14, y15, y16, y17, y18, y19, y20, y21, y22]) (R := VR fun i : Nat => V.int i) (evi_rng1 (n := cnt) (evas_cons evv_c eva_nil) ⟨by omega, by omega⟩) g9.bh (fun i σ' B' H' => ∃ (rs : List (Int × Int)) (yk : Option V) (ys : List V), σ' = [some (.ref sa), some dv, some (.int (k : Nat)), some sv, some nv, some (.int b), some o0, some o1, some o2, some (.ref ha.x), some (.int many), some (.ref rl), yk, y13, y14, y15, y16, y17, y18, y19, y20, y21, y22] ∧ Grow B H B' H' ∧ rs.length = i ∧ (∀ q ∈ rs, b ≤ q.1 ∧ q.1 < b + 40 ∧ 1 ≤ q.2) ∧ Cell H B' H' rl (.lst ys) ∧ Items (DR K pairD) rs B' ys ∧
      HouseC K c H B' H' ha ⟨[(n0, [t0]), (n1, [t1]), (n2, [t2])], n0, rs.map fun q => (q.1, s0, q.2), [], 0⟩) (fun BA HA gA => ⟨[], y12, [], rfl, g9.trans gA, rfl, (fun _ h => nomatch h), c9.grow gA, .nil, hc9.keep gA.b fun d u cd => cd.grow gA⟩) ?_ ?_
    · rintro i kk v σ' BA HA BB HB ea bha hi ⟨rs, yk, ys, rfl, gA, hrl, hrs, cA, itA, hcA⟩ gB hR
      subst hR
      have il : i < 12 := by
        have := (List.getElem?_eq_some_iff.mp hi).1
        rw [List.length_range] at this
        omega
      have gBB := gA.trans gB
      have cB := cA.grow gB
      have itB := Mono.up (P := Items (DR K pairD) rs) gB.b itA
      have hcB := hcA.keep gB.b fun d u cd => cd.grow gB
      have hdB := hd8.up (g9'.b.trans (ea.trans gB.b))
      have hslB := ls_up (g9'.b.trans (ea.trans gB.b)) hsl8
      refine (evg_name (B := BB)) HB gB.bh _ ?_
      have ysl : ys.length = i := (Paired.length itA).trans hrl
      haveI : Mono (fun (B' : Hp) (v : V) => ∃ h w : Int, b ≤ h ∧ h < b + 40 ∧ 1 ≤ w ∧ DR K pairD B' v (h, w)) := ⟨fun e ⟨h, w, q1, q2, q3, q4⟩ => ⟨h, w, q1, q2, q3, dp_up e q4⟩⟩
      refine q_app (σ := [some (.ref sa), some dv, some (.int (k : Nat)), some sv, some nv, some (.int b), some o0, some o1, some o2, some (.ref ha.x), some (.int many), some (.ref rl), some (.int (kk : Nat)), y13, y14, y15, y16, y17, y18, y19, y20, y21, y22]) (j := 11) (Pv := fun B' v => ∃ h w : Int, b ≤ h ∧ h < b + 40 ∧ 1 ≤ w ∧ DR K pairD B' v (h, w)) gBB cB rfl (EvP.imp (evp_tup (K := K) (A := ConsP (Among b (b + 40)) (ConsP (Among 1 (1 + many)) (Iss []))) (eva_cons (ev_plus hdB (.refl gB.bh.l) (evv_var (i := 5) rfl) (fun _ _ => evv_var (i := 1) rfl) (by decide) (by decide) fun _ _ => evv_c) fun B' e => eva_cons (ev_plus hdB e evv_c (fun _ _ => evv_var (i := 1) rfl) (by omega) (by omega) fun _ _ => evv_var (i := 10) rfl) fun B'' e' => eva_nil) fun B' vs ⟨_, _, h1, _, ⟨_, _, h2, _, h3⟩⟩ => by cases h3; subst h2; subst h1; exact (by decide : 2 ≤ sizeLine)) fun B' v e ⟨p, xs, h1, h2, ⟨_, _, h3, ⟨x, h4, x0, x1⟩, ⟨_, _, h5, ⟨z, h6, z0, z1⟩, h7⟩⟩⟩ => by
        cases h7
        subst h6
        subst h5
        subst h4
        subst h3
        subst h1
        exact ⟨x, z, x0, x1, z0, .tup h2 (.cons (.int x) (.cons (.int z) .nil))⟩) (by omega) fun vC BC HC eC keepC gC cC ⟨hh, ww, w0, w1, w2, dC⟩ => ?_
      have hcC : HouseC K c H BC HC ha ⟨[(n0, [t0]), (n1, [t1]), (n2, [t2])], n0, rs.map fun q => (q.1, s0, q.2), [], 0⟩ := by
        obtain ⟨⟨dx, pv', q1, f1⟩, ⟨ys', q2, i2⟩, q3⟩ := hcB
        exact ⟨⟨dx, pv', keepC _ _ nrx q1, Mono.up eC f1⟩, ⟨ys', keepC _ _ nrl' q2, Mono.up (P := Items _ _) eC i2⟩, keepC _ _ nrw q3⟩
      have itC : Items (DR K pairD) (rs ++ [(hh, ww)]) BC (ys ++ [vC]) := paired_app (Mono.up (P := Items (DR K pairD) rs) eC itB) (.cons dC .nil)
      have rowsD : ∀ H', Ex HC H' → Dp K H' (.ref rl) (.list ((rs ++ [(hh, ww)]).map pairD)) := fun H' e => .lst (sq_of (e _ _ cC.at_)) (dps_up (gC.bh.trans e) (dps_items itC))
      have lastD : ∀ H', Ex HC H' → EvD K (tOp (rIxL K) (tVar 11) (tUn (rU fun i => .int (-i)) (tC (.int 1)))) [some (.ref sa), some dv, some (.int (k : Nat)), some sv, some nv, some (.int b), some o0, some o1, some o2, some (.ref ha.x), some (.int many), some (.ref rl), some (.int (kk : Nat)), y13, y14, y15, y16, y17, y18, y19, y20, y21, y22] H' (pairD (hh, ww)) := fun H' e => evd_last (evp_var (P := fun B w => Dp K B w (.list ((rs ++ [(hh, ww)]).map pairD))) (i := 11) rfl (rowsD H' e)) (by rw [List.map_append]; simp)
      -- house.wish(..)
      obtain ⟨⟨dxh, pvh, oh, fh⟩, _, _⟩ := id hcC
      refine s_methH (σ := [some (.ref sa), some dv, some (.int (k : Nat)), some sv, some nv, some (.int b), some o0, some o1, some o2, some (.ref ha.x), some (.int many), some (.ref rl), some (.int (kk : Nat)), y13, y14, y15, y16, y17, y18, y19, y20, y21, y22]) (vs := [.int hh, .str s0, .int ww]) gC.bh.r (evv_var (i := 9) rfl) oh.at_ rfl (fun H' e => evas_cons (evv_ofD_int (evd_ixT (n := 0) (d := .int hh) (ds := [.int hh, .int ww]) (lastD H' e) evv_c rfl)) (evas_cons (evv_ixStr (n := 0) (evp_var (i := 3) rfl (ls_up (eC.trans (gC.bh.trans e)) hslB)) evv_c rfl) (evas_cons (evv_ofD_int (evd_ixT (n := 1) (d := .int ww) (ds := [.int hh, .int ww]) (lastD H' e) evv_c rfl)) eva_nil))) fun HD eD => ?_
      have gD := gC.ext eD
      refine ⟨B, H, BC, ha, _, hh, ww, s0, rfl, gD, hcC.keep (.refl gC.bh.l) fun d u cd => cd.ext eD, by show (0 : Int) ≤ hh; omega, w2, by simp [nn1, nn2, nn3], by simp, fun p hp => ?_, ⟨(n0, [t0]), by simp, t0, by simp, tn0⟩, by show (rs.map _).length ≤ 1000; rw [List.length_map]; omega, fun BE HE eE gE hcE keepE => ?_⟩
      · have : p = (n0, [t0]) ∨ p = (n1, [t1]) ∨ p = (n2, [t2]) := by simpa using hp
        rcases this with z | z | z <;> rw [z] <;> exact (by decide : 1 ≤ 60)
      refine ⟨BE, gB.b.trans (eC.trans eE), gE.bh, rs ++ [(hh, ww)], _, _, rfl, gE, by rw [List.length_append, hrl]; rfl, fun q hq => ?_, keepE _ _ nrx.symm nrl'.symm nrw.symm (cC.ext eD), Mono.up (P := Items (DR K pairD) _) eE itC, ?_⟩
      · rcases List.mem_append.mp hq with z | z
        · exact hrs q z
        · rw [List.mem_singleton.mp z]; exact ⟨w0, w1, w2⟩
      · have hcE := hcE
        rw [List.map_append]
        exact hcE
    rintro σ' BA HA ea bha ⟨rs, yk, ys, rfl, gA, hrl, hrs, cA, itA, hcA⟩
    rw [List.length_range] at hrl
    have rsl : rs.length ≤ 12 := by omega
    have eA : Ex B3 BA := e4.trans (e5.trans (e7.trans (e8.trans (g9'.b.trans ea))))
    have hdA : DeckAt BA dv := hd3.up eA
    have hnlA : LsOf K (VR V.str) [n0, n1, n2] BA nv := ls_up (e7.trans (e8.trans (g9'.b.trans ea))) hnl5
    have hslA : LsOf K (VR V.str) [s0, s1] BA sv := ls_up (g9'.b.trans ea) hsl8
    have d0A : DR K oneD BA o0 t0 := dp_up (e7.trans (e8.trans (g9'.b.trans ea))) d0
    have d1A : DR K oneD BA o1 t1 := dp_up (e7.trans (e8.trans (g9'.b.trans ea))) d1
    -- asked, stop, lost
    refine q_par3 (σ := [some (.ref sa), some dv, some (.int (k : Nat)), some sv, some nv, some (.int b), some o0, some o1, some o2, some (.ref ha.x), some (.int many), some (.ref rl), yk, y13, y14, y15, y16, y17, y18, y19, y20, y21, y22]) (Pa := Among b (b + 45)) (Pb := Is (.int (b + 2000))) (Pc := LsOf K (DR K wD) ([] : List W3)) gA (eva_cons (ev_plus hdA (.refl gA.bh.l) (evv_var (i := 5) rfl) (fun _ _ => evv_var (i := 1) rfl) (by decide) (by decide) fun _ _ => evv_c) fun B' e => eva_cons (evv_add (evv_var (i := 5) rfl) evv_c) fun B'' e' => eva_cons (P := LsOf K (DR K wD) ([] : List W3)) (EvP.imp (evp_lstV (K := K) (fe := V.int) (as := []) eva_nil (by simp)) fun _ _ _ ⟨p, xs, h1, h2, h3⟩ => ⟨p, xs, h1, h2, by cases h3; exact .nil⟩) fun B3 e3 => eva_nil) fun av pv2 lv BB HB gB gB' ⟨asked, hask, as0, as1⟩ hst hlost => ?_
    subst hask
    cases hst
    have hcB := hcA.keep gB'.b fun d u cd => cd.grow gB'
    have cB := cA.grow gB'
    have itB := Mono.up (P := Items (DR K pairD) rs) gB'.b itA
    have hnlB := ls_up gB'.b hnlA
    -- house.change(asked, names[1])
    obtain ⟨⟨dxh, pvh, oh, fh⟩, _, _⟩ := id hcB
    refine q_methH (σ := [some (.ref sa), some dv, some (.int (k : Nat)), some sv, some nv, some (.int b), some o0, some o1, some o2, some (.ref ha.x), some (.int many), some (.ref rl), yk, some (.int asked), some (.int (b + 2000)), some lv, y16, y17, y18, y19, y20, y21, y22]) (vs := [.int asked, .str n1]) gB.bh.r (evv_var (i := 9) rfl) oh.at_ rfl (fun H' e => evas_cons (evv_var (i := 13) rfl) (evas_cons (evv_ixStr (n := 1) (evp_var (i := 4) rfl (ls_up (gB.bh.trans e) hnlB)) evv_c rfl) eva_nil)) fun HC eC => ?_
    have gC0 := gB.ext eC
    refine ⟨B, H, BB, ha, _, asked, n1, rfl, gC0, hcB.keep (.refl gB.bh.l) fun d u cd => cd.ext eC, by show (0 : Int) ≤ asked; omega, by simp, by simp, fun HD gD hcD0 keepD => ?_⟩
    have hcD : HouseC K c H BB HD ha ⟨[(n0, [t0]), (n1, [t1]), (n2, [t2])], n0, rs.map fun q => (q.1, s0, q.2), [(asked, n1)], 0⟩ := hcD0
    have cD := keepD _ _ nrx.symm nrl'.symm nrw.symm (cB.ext eC)
    -- rows stand for good
    have gE := gD.freeze cD
    have eE : Ex BB (upd BB rl (.lst ys)) := Ex.new gD.bh.l cD.nb
    have hcE : HouseC K c H (upd BB rl (.lst ys)) HD ha ⟨[(n0, [t0]), (n1, [t1]), (n2, [t2])], n0, rs.map fun q => (q.1, s0, q.2), [(asked, n1)], 0⟩ := by
      obtain ⟨⟨dx, pv', q1, f1⟩, ⟨ys', q2, i2⟩, q3⟩ := hcD
      exact ⟨⟨dx, pv', q1.freeze nrx, Mono.up eE f1⟩, ⟨ys', q2.freeze nrl', Mono.up (P := Items _ _) eE i2⟩, q3.freeze nrw⟩
    have hrows : LsOf K (DR K pairD) rs (upd BB rl (.lst ys)) (.ref rl) := ⟨rl, ys, rfl, upd_same, Mono.up (P := Items (DR K pairD) rs) eE itB⟩
    have eAE : Ex BA (upd BB rl (.lst ys)) := gB'.b.trans eE
    -- jobs, begun, left
    refine q_tg3 (σ := [some (.ref sa), some dv, some (.int (k : Nat)), some sv, some nv, some (.int b), some o0, some o1, some o2, some (.ref ha.x), some (.int many), some (.ref rl), yk, some (.int asked), some (.int (b + 2000)), some lv, y16, y17, y18, y19, y20, y21, y22]) (Pa := LsOf K (DR K ljD) (lJ t0 rs asked)) (Pb := Is (.int (lB t0 rs asked))) (Pc := LsOf K (DR K p3D) (lL t0 rs asked)) gE (evp_call (A := ConsP (Is o0) (ConsP (Is (.int 0)) (ConsP (LsOf K (DR K p3D) (rows3 rs)) (ConsP (Is (.int 0)) (ConsP (Is (.int asked)) (Iss [])))))) (eva_cons (evv_var (i := 6) rfl) fun B' e => eva_cons evv_c fun B2 e2 => eva_cons (P := LsOf K (DR K p3D) (rows3 rs)) (by
      unfold rows3
      refine evp_lcA (K := K) (R := DR K pairD) (S := DR K p3D) (fun q : Int × Int => (q.1, q.2, q.1)) (evi_list (evp_var (i := 11) rfl (ls_up (e.trans e2) hrows))) (by omega) fun B3 x q e3 hq hx => ⟨_, evg_name, rfl, ?_⟩
      have hx : Dp K B3 x (.tuple [.int q.1, .int q.2]) := hx
      exact evd_catT (ds := [.int q.1, .int q.2]) (es := [.int q.1]) (evp_var (P := fun B w => Dp K B w (.tuple [.int q.1, .int q.2])) (i := 22) rfl hx) (evd_tup (evds_cons (evd_ixT (n := 0) (d := .int q.1) (evp_var (P := fun B w => Dp K B w (.tuple [.int q.1, .int q.2])) (i := 22) rfl hx) evv_c rfl) evds_nil) (by simp)) (by simp) (by simp) (by simp)) fun B3 e3 => eva_cons evv_c fun B4 e4 => eva_cons (evv_var (i := 13) rfl) fun B5 e5 => eva_nil) fun B' vs e ⟨_, _, h1, a1, ⟨_, _, h2, a2, ⟨u, _, h3, a3, ⟨_, _, h4, a4, ⟨_, _, h5, a5, h6⟩⟩⟩⟩⟩ => by
        cases h6
        cases a5
        cases a4
        cases a2
        cases a1
        subst h5
        subst h4
        subst h3
        subst h2
        subst h1
        exact ⟨o0, u, 0, 0, asked, t0, rows3 rs, rfl, dp_up (eAE.trans e) d0A, a3, by unfold rows3; rw [List.length_map]; omega, rfl⟩) fun jv bv lfv BF HF gF gF' hj hb2' hlf => ?_
    cases hb2'
    have hcF := hcE.keep gF'.b fun d u cd => cd.grow gF'
    have eAF := eAE.trans gF'.b
    have gb := gone_bound (k := 0) (rows := rows3 rs) (asked := asked) (begun := 0) ok0 (by omega)
    have r3l : (rows3 rs).length = rs.length := by unfold rows3; rw [List.length_map]
    have gb1 : asked ≤ lB t0 rs asked ∧ lB t0 rs asked ≤ asked + 144 := ⟨gb.1, by
      have := gb.2
      rw [r3l] at this
      show goneFin (goneJobs t0 0 (rows3 rs) 0 asked) asked ≤ _
      omega⟩
    have hnlF := ls_up eAF hnlA
    -- changes
    refine q_newLP (σ := [some (.ref sa), some dv, some (.int (k : Nat)), some sv, some nv, some (.int b), some o0, some o1, some o2, some (.ref ha.x), some (.int many), some (.ref rl), yk, some (.int asked), some (.int (b + 2000)), some lv, some jv, some (.int (lB t0 rs asked)), some lfv, y19, y20, y21, y22]) (A := ConsP (fun B' u => Dp K B' u (turnD (asked, lB t0 rs asked, n1))) (Iss [])) gF (eva_cons (P := fun B' u => Dp K B' u (turnD (asked, lB t0 rs asked, n1))) (evd_tup (K := K) (ds := [.int asked, .int (lB t0 rs asked), .str n1]) (evds_cons (evd_int (evv_var (i := 13) rfl)) (evds_cons (evd_int (evv_var (i := 17) rfl)) (evds_cons (evd_str (evv_ixStr (n := 1) (evp_var (i := 4) rfl hnlF) evv_c rfl)) evds_nil))) (by simp)) fun B' e => eva_nil) (fun B' vs ⟨_, _, h1, _, h2⟩ => by cases h2; subst h1; exact (by decide : 1 ≤ sizeLine)) fun vs cl BG HG eG keepG ncl gG cG ⟨cv0, _, h1, dcv, h2⟩ => ?_
    cases h2
    subst h1
    have hcG := hcF.keep eG keepG
    have ncx : ∀ {d : Addr} {u : HO}, Cell H BF HF d u → d ≠ cl := fun cd z => by rw [z] at cd; rw [cd.at_] at ncl; cases ncl
    obtain ⟨ncx1, ncx2, ncx3⟩ : ha.x ≠ cl ∧ ha.l ≠ cl ∧ ha.w ≠ cl := by
      obtain ⟨⟨_, _, q1, _⟩, ⟨_, q2, _⟩, q3⟩ := id hcF
      exact ⟨ncx q1, ncx q2, ncx q3⟩
    have eAG := eAF.trans eG
    have hdG := hdA.up eAG
    -- if ..: a second change
    refine q_ifJ (σ := [some (.ref sa), some dv, some (.int (k : Nat)), some sv, some nv, some (.int b), some o0, some o1, some o2, some (.ref ha.x), some (.int many), some (.ref rl), yk, some (.int asked), some (.int (b + 2000)), some lv, some jv, some (.int (lB t0 rs asked)), some lfv, some (.ref cl), y20, y21, y22]) (Pt := fun _ => True) (evt_any (evp_op (ev_draw hdG (.refl gG.bh.l) (evv_var (i := 1) rfl) (m := 3) (by decide) (by decide) evv_c) (fun B' e => evv_c (v := .int 0)) fun x y B' e ⟨q, hq, q0, q1⟩ hy => by
        cases hy
        subst hq
        exact evr_now (v := .bl (decide (q > 0))) (fun H bh Q qq => ⟨q, 0, rfl, rfl, qq⟩) ⟨_, rfl, trivial⟩) gG.bh)
      (fun σ' H' => ∃ (st : Option Int) (B' : Hp) (y' : Option V), σ' = [some (.ref sa), some dv, some (.int (k : Nat)), some sv, some nv, some (.int b), some o0, some o1, some o2, some (.ref ha.x), some (.int many), some (.ref rl), yk, some (.int asked), some (.int (st.getD (b + 2000))), some lv, some jv, some (.int (lB t0 rs asked)), some lfv, some (.ref cl), y20, y21, y22] ∧ Grow B H B' H' ∧ Ex BG B' ∧ (∀ x, st = some x → lB t0 rs asked + 1 ≤ x ∧ x ≤ lB t0 rs asked + 40) ∧ HouseC K c H B' H' ha ⟨[(n0, [t0]), (n1, [t1]), (n2, [t2])], n0, rs.map fun q => (q.1, s0, q.2), (asked, n1) :: optW st n2, 0⟩ ∧ Cell H B' H' cl (.lst [cv0])) ?_ ?_ ?_
    · intro BH HH gH _ D' hrt hnx
      have gHH := gG.trans gH
      have hcH := hcG.keep gH.b fun d u cd => cd.grow gH
      have cH := cG.grow gH
      have hdH := hdG.up gH.b
      have hnlH := ls_up (eG.trans gH.b) hnlF
      haveI : Mono (fun (_ : Hp) (v : V) => ∃ x : Int, v = .int x ∧ lB t0 rs asked + 1 ≤ x ∧ x ≤ lB t0 rs asked + 40) := ⟨fun _ h => h⟩
      refine q_asg (σ := [some (.ref sa), some dv, some (.int (k : Nat)), some sv, some nv, some (.int b), some o0, some o1, some o2, some (.ref ha.x), some (.int many), some (.ref rl), yk, some (.int asked), some (.int (b + 2000)), some lv, some jv, some (.int (lB t0 rs asked)), some lfv, some (.ref cl), y20, y21, y22]) (Pv := fun _ v => ∃ x : Int, v = .int x ∧ lB t0 rs asked + 1 ≤ x ∧ x ≤ lB t0 rs asked + 40) gHH (EvP.imp (ev_plus hdH (.refl gH.bh.l) (evv_add (evv_var (i := 17) rfl) evv_c) (fun _ _ => evv_var (i := 1) rfl) (m := 40) (by decide) (by decide) fun _ _ => evv_c) fun B' v e ⟨x, h1, h2, h3⟩ => ⟨x, h1, by omega, by omega⟩) fun xv BI HI gI gI' ⟨x, hx, x1, x2⟩ => ?_
      subst hx
      have hcI := hcH.keep gI'.b fun d u cd => cd.grow gI'
      have cI := cH.grow gI'
      obtain ⟨⟨dxi, pvi, oi, fi⟩, _, _⟩ := id hcI
      refine s_methH (σ := [some (.ref sa), some dv, some (.int (k : Nat)), some sv, some nv, some (.int b), some o0, some o1, some o2, some (.ref ha.x), some (.int many), some (.ref rl), yk, some (.int asked), some (.int x), some lv, some jv, some (.int (lB t0 rs asked)), some lfv, some (.ref cl), y20, y21, y22]) (vs := [.int x, .str n2]) gI.bh.r (evv_var (i := 9) rfl) oi.at_ rfl (fun H' e => evas_cons (evv_var (i := 14) rfl) (evas_cons (evv_ixStr (n := 2) (evp_var (i := 4) rfl (ls_up (gI'.b.trans (gI.bh.trans e)) hnlH)) evv_c rfl) eva_nil)) fun HJ eJ => ?_
      refine ⟨B, H, BI, ha, _, x, n2, rfl, gI.ext eJ, hcI.keep (.refl gI.bh.l) fun d u cd => cd.ext eJ, by show (0 : Int) ≤ x; omega, by simp, by simp, fun HK gK hcK0 keepK => ?_⟩
      refine hnx _ _ ⟨some x, BI, none, rfl, gK, gH.b.trans gI'.b, fun z hz => by cases hz; exact ⟨x1, x2⟩, ?_, keepK _ _ ncx1.symm ncx2.symm ncx3.symm (cI.ext eJ)⟩
      have ep : putW [(asked, n1)] x n2 = (asked, n1) :: optW (some x) n2 := by
        unfold putW
        have : ¬ (asked = x) := by omega
        simp [this, optW]
      have hcK0 := hcK0
      rw [show ({ plans := [(n0, [t0]), (n1, [t1]), (n2, [t2])], first := n0, heard := rs.map fun q => (q.1, s0, q.2), wanted := [(asked, n1)], hour := 0 } : Hs).wanted = [(asked, n1)] from rfl, ep] at hcK0
      exact hcK0
    · intro BH HH gH _ D' hrt hnx
      exact hnx _ _ ⟨none, BH, none, rfl, gG.trans gH, gH.b, (fun z hz => by cases hz), hcG.keep gH.b fun d u cd => cd.grow gH, cG.grow gH⟩
    rintro σ' HI ⟨st, BI, y', rfl, gI, eI, hst, hcI, cI⟩
    have eAI := eAG.trans eI
    have hjI : LsOf K (DR K ljD) (lJ t0 rs asked) BI jv := ls_up (eG.trans eI) hj
    have hlfI : LsOf K (DR K p3D) (lL t0 rs asked) BI lfv := ls_up (eG.trans eI) hlf
    have lLl : (lL t0 rs asked).length ≤ 12 := Nat.le_trans left_len (by rw [r3l]; exact rsl)
    have stop1 : lB t0 rs asked ≤ st.getD (b + 2000) := by
      cases hz : st with
      | none => show _ ≤ b + 2000; omega
      | some x => have := hst x hz; show _ ≤ x; omega
    -- more, last, left
    refine q_tg3 (σ := [some (.ref sa), some dv, some (.int (k : Nat)), some sv, some nv, some (.int b), some o0, some o1, some o2, some (.ref ha.x), some (.int many), some (.ref rl), yk, some (.int asked), some (.int (st.getD (b + 2000))), some lv, some jv, some (.int (lB t0 rs asked)), some lfv, some (.ref cl), y20, y21, y22]) (Pa := LsOf K (DR K ljD) (lM t0 t1 rs asked (st.getD (b + 2000)))) (Pb := Is (.int (lE t0 t1 rs asked (st.getD (b + 2000))))) (Pc := LsOf K (DR K p3D) (lL2 t0 t1 rs asked (st.getD (b + 2000)))) gI (evp_call (A := ConsP (Is o1) (ConsP (Is (.int 1)) (ConsP (LsOf K (DR K p3D) (lL t0 rs asked)) (ConsP (Is (.int (lB t0 rs asked))) (ConsP (Is (.int (st.getD (b + 2000)))) (Iss [])))))) (eva_cons (evv_var (i := 7) rfl) fun B' e => eva_cons evv_c fun B2 e2 => eva_cons (P := LsOf K (DR K p3D) (lL t0 rs asked)) (evp_var (i := 18) rfl (ls_up (e.trans e2) hlfI)) fun B3 e3 => eva_cons (evv_var (i := 17) rfl) fun B4 e4 => eva_cons (evv_var (i := 14) rfl) fun B5 e5 => eva_nil) fun B' vs e ⟨_, _, h1, a1, ⟨_, _, h2, a2, ⟨u, _, h3, a3, ⟨_, _, h4, a4, ⟨_, _, h5, a5, h6⟩⟩⟩⟩⟩ => by
        cases h6
        cases a5
        cases a4
        cases a2
        cases a1
        subst h5
        subst h4
        subst h3
        subst h2
        subst h1
        exact ⟨o1, u, 1, lB t0 rs asked, st.getD (b + 2000), t1, lL t0 rs asked, rfl, dp_up (eAI.trans e) d1A, a3, by omega, rfl⟩) fun mrv ltv lfv2 BJ HJ gJ gJ' hmr hlt hlf2 => ?_
    cases hlt
    have hcJ := hcI.keep gJ'.b fun d u cd => cd.grow gJ'
    have cJ := cI.grow gJ'
    have eAJ := eAI.trans gJ'.b
    have dcvJ : Dp K BJ cv0 (turnD (asked, lB t0 rs asked, n1)) := dp_up (eI.trans gJ'.b) dcv
    have hnlJ := ls_up eAJ hnlA
    have hslJ := ls_up eAJ hslA
    have hlostJ : LsOf K (DR K wD) ([] : List W3) BJ lv := ls_up ((eE.trans gF'.b).trans (eG.trans (eI.trans gJ'.b))) hlost
    have I : LawIn b s0 t0 t1 t2 n0 n1 n2 rs asked st := ⟨b0, ⟨ok0, tn0⟩, ⟨ok1, tn1⟩, ⟨ok2, fun z => ns01 (z.symm.trans tn2)⟩, ⟨nn1, nn2, nn3⟩, rsl, hrs, ⟨as0, as1⟩, hst⟩
    have stb : decide (st.getD (b + 2000) < b + 2000) = st.isSome := by
      cases hz : st with
      | none => exact decide_eq_false (Int.lt_irrefl _)
      | some x => have := hst x hz; exact decide_eq_true (by show x < _; omega)
    -- what the second change brings
    refine q_ifJ (σ := [some (.ref sa), some dv, some (.int (k : Nat)), some sv, some nv, some (.int b), some o0, some o1, some o2, some (.ref ha.x), some (.int many), some (.ref rl), yk, some (.int asked), some (.int (st.getD (b + 2000))), some lv, some jv, some (.int (lB t0 rs asked)), some lfv2, some (.ref cl), some mrv, some (.int (lE t0 t1 rs asked (st.getD (b + 2000)))), y22]) (Pt := fun z => z = st.isSome) (evt_pt (evt_eq (evt_test (evv_I0 (evv_var (i := 14) rfl) (evv_add (evv_var (i := 5) rfl) evv_c))) stb) gJ.bh)
      (fun σ' H' => ∃ (lv2 : V) (yr : Option V) (B' : Hp) (cys : List V), σ' = [some (.ref sa), some dv, some (.int (k : Nat)), some sv, some nv, some (.int b), some o0, some o1, some o2, some (.ref ha.x), some (.int many), some (.ref rl), yk, some (.int asked), some (.int (st.getD (b + 2000))), some lv2, some jv, some (.int (lB t0 rs asked)), some lfv2, some (.ref cl), some mrv, some (.int (lE t0 t1 rs asked (st.getD (b + 2000)))), yr] ∧ Grow B H B' H' ∧ Ex BJ B' ∧ LsOf K (DR K wD) (optM st fun x => srt wD ((lL2 t0 t1 rs asked x).map fun q => (q.2.2, s0, q.2.1))) B' lv2 ∧ HouseC K c H B' H' ha ⟨[(n0, [t0]), (n1, [t1]), (n2, [t2])], n0, rs.map fun q => (q.1, s0, q.2), (asked, n1) :: optW st n2, 0⟩ ∧ Cell H B' H' cl (.lst cys) ∧ Items (DR K turnD) ((asked, lB t0 rs asked, n1) :: optM st fun x => [(x, lE t0 t1 rs asked x, n2)]) B' cys) ?_ ?_ ?_
    · intro BK HK gK hsome D' hrt hnx
      obtain ⟨x, rfl⟩ : ∃ x, st = some x := by
        cases hz : st with
        | none => rw [hz] at hsome; cases hsome
        | some x => exact ⟨x, rfl⟩
      have gKK := gJ.trans gK
      have cK := cJ.grow gK
      have hnlK := ls_up gK.b hnlJ
      refine q_appE (σ := [some (.ref sa), some dv, some (.int (k : Nat)), some sv, some nv, some (.int b), some o0, some o1, some o2, some (.ref ha.x), some (.int many), some (.ref rl), yk, some (.int asked), some (.int x), some lv, some jv, some (.int (lB t0 rs asked)), some lfv2, some (.ref cl), some mrv, some (.int (lE t0 t1 rs asked x)), y22]) (Pv := fun B' w => Dp K B' w (turnD (x, lE t0 t1 rs asked x, n2))) gKK cK (evv_var (i := 19) rfl) (evd_tup (K := K) (ds := [.int x, .int (lE t0 t1 rs asked x), .str n2]) (evds_cons (evd_int (evv_var (i := 14) rfl)) (evds_cons (evd_int (evv_var (i := 21) rfl)) (evds_cons (evd_str (evv_ixStr (n := 2) (evp_var (i := 4) rfl hnlK) evv_c rfl)) evds_nil))) (by simp)) (by simp) fun wL BL HL eL keepL gL cL pL => ?_
      have hcL : HouseC K c H BL HL ha ⟨[(n0, [t0]), (n1, [t1]), (n2, [t2])], n0, rs.map fun q => (q.1, s0, q.2), (asked, n1) :: optW (some x) n2, 0⟩ := by
        obtain ⟨⟨dx, pv', q1, f1⟩, ⟨ys', q2, i2⟩, q3⟩ := hcJ.keep gK.b fun d u cd => cd.grow gK
        exact ⟨⟨dx, pv', keepL _ _ ncx1 q1, Mono.up eL f1⟩, ⟨ys', keepL _ _ ncx2 q2, Mono.up (P := Items _ _) eL i2⟩, keepL _ _ ncx3 q3⟩
      have l2l : (lL2 t0 t1 rs asked x).length ≤ 12 := Nat.le_trans left_len lLl
      refine (evp_sorted (σ := [some (.ref sa), some dv, some (.int (k : Nat)), some sv, some nv, some (.int b), some o0, some o1, some o2, some (.ref ha.x), some (.int many), some (.ref rl), yk, some (.int asked), some (.int x), some lv, some jv, some (.int (lB t0 rs asked)), some lfv2, some (.ref cl), some mrv, some (.int (lE t0 t1 rs asked x)), y22]) (K := K) (enc := wD) (bs := (lL2 t0 t1 rs asked x).map fun q : W3i => ((q.2.2, s0, q.2.1) : W3)) (evp_lcA (K := K) (R := DR K p3D) (S := DR K wD) (fun q : W3i => (q.2.2, s0, q.2.1)) (evi_list (evp_var (i := 18) rfl (ls_up (gK.b.trans eL) hlf2))) (by omega) fun B' y q e hq hy => ⟨_, evg_name, rfl, ?_⟩) (alike_w3 _) (sortable_w3 _) (by rw [List.length_map]; omega) fun z _ => depth_w3 z) HL gL.bh _ fun lv2 BM HM gM hlM => hnx _ _ ⟨lv2, _, BM, _, rfl, gL.trans gM, gK.b.trans (eL.trans gM.b), hlM, hcL.keep gM.b fun d u cd => cd.grow gM, cL.grow gM, .cons (dp_up ((gK.b.trans eL).trans gM.b) dcvJ) (.cons (dp_up gM.b pL) .nil)⟩
      have hy : Dp K B' y (.tuple [.int q.1, .int q.2.1, .int q.2.2]) := hy
      exact evd_tup (K := K) (ds := [.int q.2.2, .str s0, .int q.2.1]) (evds_cons (evd_ixT (n := 2) (evp_var (P := fun B w => Dp K B w (.tuple [.int q.1, .int q.2.1, .int q.2.2])) (i := 22) rfl hy) evv_c rfl) (evds_cons (evd_str (evv_ixStr (n := 0) (evp_var (i := 3) rfl (ls_up ((gK.b.trans eL).trans e) hslJ)) evv_c rfl)) (evds_cons (evd_ixT (n := 1) (evp_var (P := fun B w => Dp K B w (.tuple [.int q.1, .int q.2.1, .int q.2.2])) (i := 22) rfl hy) evv_c rfl) evds_nil))) (by simp)
    · intro BK HK gK hsome D' hrt hnx
      have hz : st = none := by
        cases hz : st with
        | none => rfl
        | some x => rw [hz] at hsome; cases hsome
      subst hz
      exact hnx _ _ ⟨lv, _, BK, _, rfl, gJ.trans gK, gK.b, ls_up gK.b hlostJ, hcJ.keep gK.b fun d u cd => cd.grow gK, cJ.grow gK, .cons (dp_up gK.b dcvJ) .nil⟩
    rintro σ' HK ⟨lv2, yr, BK, cys, rfl, gK, eK, hlK, hcK, cK, itK⟩
    have hjK := ls_up (gJ'.b.trans eK) hjI
    have hmK := ls_up eK hmr
    -- house.run(..)
    obtain ⟨⟨dxk, pvk, ok', fk⟩, _, _⟩ := id hcK
    refine q_methH (σ := [some (.ref sa), some dv, some (.int (k : Nat)), some sv, some nv, some (.int b), some o0, some o1, some o2, some (.ref ha.x), some (.int many), some (.ref rl), yk, some (.int asked), some (.int (st.getD (b + 2000))), some lv2, some jv, some (.int (lB t0 rs asked)), some lfv2, some (.ref cl), some mrv, some (.int (lE t0 t1 rs asked (st.getD (b + 2000)))), yr]) (vs := [.int (b + 2000)]) gK.bh.r (evv_var (i := 9) rfl) ok'.at_ rfl (fun H' e => evas_cons (evv_add (evv_var (i := 5) rfl) evv_c) eva_nil) fun HL eL => ?_
    refine ⟨B, H, BK, ha, _, b + 2000, rfl, gK.ext eL, hcK.keep (.refl gK.bh.l) fun d u cd => cd.ext eL, by show (0 : Int) ≤ b + 2000; omega, fun HM gM hcM0 keepM => ?_⟩
    have hcM : HouseC K c H BK HM ha (hsOf b s0 t0 t1 t2 n0 n1 n2 rs asked st) := hcM0
    have cM := keepM _ _ ncx1.symm ncx2.symm ncx3.symm (cK.ext eL)
    -- all stands for good
    obtain ⟨BN, gN, eN, hatN, keepN⟩ := hcM.freeze gM
    have cN := keepN _ _ ncx1.symm ncx2.symm ncx3.symm cM
    have gO := gN.freeze cN
    have eO : Ex BN (upd BN cl (.lst cys)) := Ex.new gN.bh.l cN.nb
    have hatO : HouseAt K c (upd BN cl (.lst cys)) (.ref ha.x) (hsOf b s0 t0 t1 t2 n0 n1 n2 rs asked st) := MonoR.up (R := HouseAt K c) eO hatN
    have eKO := eN.trans eO
    have hch : LsOf K (DR K turnD) ((asked, lB t0 rs asked, n1) :: optM st fun x => [(x, lE t0 t1 rs asked x, n2)]) (upd BN cl (.lst cys)) (.ref cl) := ⟨cl, cys, rfl, upd_same, Mono.up (P := Items (DR K turnD) _) eKO itK⟩
    have HG := lawIn_good I
    have k0 := (isName_strOk is0).1
    have k1 := (isName_strOk in1).1
    have k2 := (isName_strOk in2).1
    have refl' : ∀ {d : PyData}, SeqAt.shaped d = true → (!PyData.eqv d d) = false := fun h => by rw [SeqAt.eqv_refl _ (SeqAt.canLay_of_shaped h)]; rfl
    have shJ : SeqAt.shaped (.list ((lJ t0 rs asked ++ lM t0 t1 rs asked (st.getD (b + 2000))).map ljD)) = true := shaped_lj fun j hj => by
      rcases List.mem_append.mp hj with z | z
      · rw [gone_names z, tn0]; exact k0
      · rw [gone_names z, tn1]; exact k0
    have shT : SeqAt.shaped (.list (((asked, lB t0 rs asked, n1) :: optM st fun x => [(x, lE t0 t1 rs asked x, n2)]).map turnD)) = true := shaped_turn fun j hj => by
      rcases List.mem_cons.mp hj with z | z
      · rw [z]; exact k1
      · cases hz : st with
        | none => rw [hz] at z; cases z
        | some x => rw [hz] at z; rw [List.mem_singleton.mp z]; exact k2
    have shW : SeqAt.shaped (.list ((optM st fun x => srt wD ((lL2 t0 t1 rs asked x).map fun q => (q.2.2, s0, q.2.1))).map wD)) = true := shaped_w fun j hj => by
      cases hz : st with
      | none => rw [hz] at hj; cases hj
      | some x =>
        rw [hz] at hj
        have hj := srt_perm.mem_iff.mp hj
        obtain ⟨q, _, rfl⟩ := List.mem_map.mp hj
        exact k0
    have jl : (lJ t0 rs asked).length + (lM t0 t1 rs asked (st.getD (b + 2000))).length ≤ 1000 := by
      have q1 : (lJ t0 rs asked).length ≤ (rows3 rs).length := gone_len
      have q2 : (lM t0 t1 rs asked (st.getD (b + 2000))).length ≤ (lL t0 rs asked).length := gone_len
      omega
    have ask : ∀ {m : Str} {G : StS → Hp → V → Prop} {E : XK} {d : PyData} (B' : Hp), Ex (upd BN cl (.lst cys)) B' → (houseF .non "" .non .non 0).lookup m = none → (∀ s B2 u, ToldOf (hsOf b s0 t0 t1 t2 n0 n1 n2 rs asked st) s → G s B2 u → Dp K B2 u d) → EvD K (tMeth c.House m (Pure (R_houseOf K c G)) [] E (tVar 9) tNil) [some (.ref sa), some dv, some (.int (k : Nat)), some sv, some nv, some (.int b), some o0, some o1, some o2, some (.ref ha.x), some (.int many), some (.ref rl), yk, some (.int asked), some (.int (st.getD (b + 2000))), some lv2, some jv, some (.int (lB t0 rs asked)), some lfv2, some (.ref cl), some mrv, some (.int (lE t0 t1 rs asked (st.getD (b + 2000)))), yr] B' d := fun B' e hm k => by
      refine EvP.imp (ev_houseM (us := []) (Pv := fun B' u => ∃ s, ToldOf (hsOf b s0 t0 t1 t2 n0 n1 n2 rs asked st) s ∧ _) (evv_var (i := 9) rfl) (MonoR.up (R := HouseAt K c) e hatO) hm eva_nil fun B2 e2 => ⟨_, _, rfl, MonoR.up (R := HouseAt K c) (e.trans e2) hatO, HG, rfl⟩) fun B2 u e2 ⟨s, h1, h2⟩ => k s B2 u h1 h2
    have htest : EvT (tOr (tTest (tOp (rNeD K) (tMeth c.House "jobs" (Pure (R_houseOf K c (F_jobs K))) [] E0 (tVar 9) tNil) (tOp rCat (tVar 16) (tVar 20)))) (tOr (tTest (tOp (rNeD K) (tMeth c.House "changes" (Pure (R_houseOf K c (F_changes K))) [] E0 (tVar 9) tNil) (tVar 19))) (tTest (tOp (rNeD K) (tMeth c.House "dropped" (Pure (R_houseOf K c (F_dropped K))) [] E0 (tVar 9) tNil) (tVar 15))))) [some (.ref sa), some dv, some (.int (k : Nat)), some sv, some nv, some (.int b), some o0, some o1, some o2, some (.ref ha.x), some (.int many), some (.ref rl), yk, some (.int asked), some (.int (st.getD (b + 2000))), some lv2, some jv, some (.int (lB t0 rs asked)), some lfv2, some (.ref cl), some mrv, some (.int (lE t0 t1 rs asked (st.getD (b + 2000)))), yr] (upd BN cl (.lst cys)) false :=
      evt_or (b := false) (c := false) (evt_test (evv_cast (evd_ne (d := .list ((lJ t0 rs asked ++ lM t0 t1 rs asked (st.getD (b + 2000))).map ljD)) (ask _ (.refl gO.bh.l) rfl fun s B2 u h1 h2 => by rw [← (law_math I h1).1]; exact lsOf_d h2) (EvP.imp (evp_cat (K := K) (R := DR K ljD) (as := lJ t0 rs asked) (bs := lM t0 t1 rs asked (st.getD (b + 2000))) (evp_var (i := 16) rfl (ls_up eKO hjK)) (evp_var (i := 20) rfl (ls_up eKO hmK)) (by omega)) fun B2 u e2 h => lsOf_d h) shJ shJ) (by rw [refl' shJ]))) fun _ =>
      evt_or (b := false) (c := false) (evt_test (evv_cast (evd_ne (d := .list (((asked, lB t0 rs asked, n1) :: optM st fun x => [(x, lE t0 t1 rs asked x, n2)]).map turnD)) (ask _ (.refl gO.bh.l) rfl fun s B2 u h1 h2 => by rw [← (law_math I h1).2.1]; exact lsOf_d h2) (EvP.imp (evp_var (P := LsOf K (DR K turnD) ((asked, lB t0 rs asked, n1) :: optM st fun x => [(x, lE t0 t1 rs asked x, n2)])) (i := 19) rfl hch) fun B2 u e2 h => lsOf_d h) shT shT) (by rw [refl' shT]))) fun _ =>
      evt_test (evv_cast (evd_ne (d := .list ((optM st fun x => srt wD ((lL2 t0 t1 rs asked x).map fun q => (q.2.2, s0, q.2.1))).map wD)) (ask _ (.refl gO.bh.l) rfl fun s B2 u h1 h2 => by rw [← (law_math I h1).2.2.1]; exact lsOf_d h2) (EvP.imp (evp_var (P := LsOf K (DR K wD) (optM st fun x => srt wD ((lL2 t0 t1 rs asked x).map fun q => (q.2.2, s0, q.2.1)))) (i := 15) rfl (ls_up eKO hlK)) fun B2 u e2 h => lsOf_d h) shW shW) (by rw [refl' shW]))
    refine s_ifH (b := false) gO.bh.r (EvT.mono htest gO.bh) fun HP eP => ?_
    refine iteF ?_
    exact ⟨_, g3.b.trans (eA.trans (eAJ.trans (eK.trans eKO))), (gO.ext eP).bh, _, _, _, _, _, _, _, _, _, _, _, _, _, _, _, _, _, _, _, _, _, rfl, gO.ext eP⟩
  · rintro σ' B2 H2 eb bh' ⟨y2, y3, y4, y5, y6, y7, y8, y9, y10, y11, y12, y13, y14, y15, y16, y17, y18, y19, y20, y21, y22, rfl, gr⟩
    exact r (.bl true) B2 H2 gr rfl
end
end K7

set_option Elab.async false
set_option linter.all false
set_option maxRecDepth 100000
set_option maxHeartbeats 2000000
namespace PySem
/-! ### 27. the zip object of zip(l, m, strict=True): its steps -/
abbrev IsZs (h : Heap) (z u v : Addr) (f : Value) : Prop := h.get? z = some { cls := .type "zip", dict := none, data := .fields #[f, .bool false, .bool true, .ref u, .ref v], slots := #[] }
section
variable {P0 : Program} {W0 : World} {A : Around} {E : Value → Shared → Prop} {s : Shared}
theorem zs_draw {i l : Addr} {k : Nat} {its : Array Value} {x : Value} {Q : Option Value → Shared → Prop} (hi : s.heap.IsListIter i l k) (hl : s.heap.IsList l its) (hx : its[k]? = some x) (hQ : ∀ g, g.IsListIter i l (k + 1) → Heap.SameBut i s.heap g → Q (some x) { s with heap := g }) :
    wpAny (model P0 W0) A (Builtin.SmallTypes.nextOrEnd (.ref i)) Q E s := by
  unfold Builtin.SmallTypes.nextOrEnd
  exact wpAny_bind (wpAny_attempt (wpAny_nextOf_list_item hi hl hx fun g a b => wpAny_pure (hQ g a b)))
theorem zs_dry {i l : Addr} {k : Nat} {its : Array Value} {Q : Option Value → Shared → Prop} (hh : A.handled = none) (hi : s.heap.IsListIter i l k) (hl : s.heap.IsList l its) (hx : its[k]? = none) (hQ : ∀ g, Heap.ExtBut i s.heap g → Q none { s with heap := g }) :
    wpAny (model P0 W0) A (Builtin.SmallTypes.nextOrEnd (.ref i)) Q E s := by
  unfold Builtin.SmallTypes.nextOrEnd
  refine wpAny_bind (wpAny_attempt (wpAny_nextOf_list_end hh hi hl hx fun g e a ⟨o, ho, c⟩ => ?_))
  exact wpAny_bind (wpAny_isInstance (T := "StopIteration") (b := true) ⟨o, ho, c⟩ isSubtype_stop (wpAny_pure (hQ _ a)))
theorem zs_stop {α : Type} {Q : α → Shared → Prop} (hh : A.handled = none) (hE : ∀ g e, (∀ c o, s.heap.get? c = some o → g.get? c = some o) → (∃ o, g.get? e = some o ∧ o.cls = .type "StopIteration") → E (.ref e) { s with heap := g }) :
    wpAny (model P0 W0) A (Builtin.SmallTypes.stopIteration : Sem α) Q E s := by
  unfold Builtin.SmallTypes.stopIteration
  refine wpAny_bind ?_
  simp only [newExc, newTuple]
  refine wpAny_bind (wpAny_newObj_type ?_ (by size_fits))
  refine wpAny_bind (m := firstArgMember _ _) (wpAny_of_eq (a := Value.none) (by first | rfl | (simp only [firstArgMember]; rfl)) ?_)
  refine wpAny_newObj_type ?_ (by size_fits)
  simp only [raiseNew]
  refine wpAny_bind (wpAny_handled ?_)
  rw [hh]
  refine wpAny_bind (wpAny_pure (wpAny_throw (hE _ _ (fun c o q => Heap.get?_push_of_some _ (Heap.get?_push_of_some _ q)) ⟨_, Heap.get?_push_size _ rfl, rfl⟩)))
theorem zs_give {z u v i j l m : Addr} {k n : Nat} {xs ys : Array Value} {x y a b : Value} {Q : Value → Shared → Prop} (D : ZipApart z u v i j l m) (hz : IsZs s.heap z u v .none) (hu : IsPair s.heap u (.ref i) (.ref j)) (hv : IsPair s.heap v a b)
    (hi : s.heap.IsListIter i l k) (hj : s.heap.IsListIter j m n) (hl : s.heap.IsList l xs) (hm : s.heap.IsList m ys) (hx : xs[k]? = some x) (hy : ys[n]? = some y)
    (hQ : ∀ g, IsZs g z u v (rawInt s.heap.objs.size) → IsPair g v x y → g.IsListIter i l (k + 1) → g.IsListIter j m (n + 1) → IsPair g s.heap.objs.size x y → g.objs.size = s.heap.objs.size + 1 → (∀ c o, c ≠ z → c ≠ v → c ≠ i → c ≠ j → s.heap.get? c = some o → g.get? c = some o) → Q (.ref s.heap.objs.size) { s with heap := g }) :
    wpAny (model P0 W0) A (Builtin.«zip.__next__» ⟨[.ref z], []⟩) (fun fin t => ∃ r, fin = .done (.ret r) ∧ Q r t) E s := by
  show wpAny _ _ (field (.ref z) 2 >>= _) _ _ _
  refine wpAny_bind (wpAny_field hz rfl (x := .bool true) rfl ?_)
  show wpAny _ _ (field (.ref z) 3 >>= _) _ _ _
  refine wpAny_bind (wpAny_field hz rfl (x := .ref u) rfl (wpAny_bind (wpAny_seqItems hu rfl ?_)))
  show wpAny _ _ (Builtin.SmallTypes.ownedTupleIsFree (.ref z) >>= _) _ _ _
  refine wpAny_bind ?_
  unfold Builtin.SmallTypes.ownedTupleIsFree
  refine wpAny_bind (wpAny_field hz rfl (x := .none) rfl (wpAny_pure ?_))
  simp only [if_true]
  refine wpAny_bind (wpAny_rule (wpAny_bind (wpAny_field hz rfl (x := .ref v) rfl (wpAny_bind (wpAny_setField_rec hz (by simp) fun g1 z1 s1 => ?_)))))
  replace z1 : IsZs g1 z u v .ellipsis := z1
  refine wpAny_bind ?_
  simp only [List.zipIdx_cons, List.zipIdx_nil, List.forIn_cons, List.forIn_nil]
  refine wpAny_bind (wpAny_bind (wpAny_onRaise ?_))
  show wpAny _ _ (Builtin.SmallTypes.nextOrEnd (.ref i)) _ _ _
  refine zs_draw (hi.extBut s1.extBut D.i1z) (hl.extBut s1.extBut D.l1z) hx fun g2 i2 s2 => ?_
  have v2 : IsPair g2 v a b := s2.extBut _ _ D.TOi1 (s1.extBut _ _ D.TOz hv)
  refine wpAny_bind (wpAny_seqItems v2 rfl (wpAny_bind (wpAny_updateSeq_pair v2 fun g3 v3 s3 => ?_)))
  replace v3 : IsPair g3 v x b := v3
  refine wpAny_bind (wpAny_letGo (wpAny_pure ?_))
  refine wpAny_bind (wpAny_bind (wpAny_onRaise ?_))
  show wpAny _ _ (Builtin.SmallTypes.nextOrEnd (.ref j)) _ _ _
  refine zs_draw (((hj.extBut s1.extBut D.i2z).extBut s2.extBut D.i12.symm).extBut s3.extBut D.TOi2.symm) (((hm.extBut s1.extBut D.l2z).extBut s2.extBut D.l2i1).extBut s3.extBut D.l2TO) hy fun g4 j4 s4 => ?_
  have v4 : IsPair g4 v x b := s4.extBut _ _ D.TOi2 v3
  refine wpAny_bind (wpAny_seqItems v4 rfl (wpAny_bind (wpAny_updateSeq_pair v4 fun g5 v5 s5 => ?_)))
  replace v5 : IsPair g5 v x y := v5
  refine wpAny_bind (wpAny_letGo (wpAny_pure (wpAny_pure ?_)))
  refine wpAny_bind (wpAny_seqItems v5 rfl (wpAny_bind (wpAny_newTuple ?_)))
  have len : g5.objs.size = s.heap.objs.size := by rw [s5.1, s4.1, s3.1, s2.1, s1.1]
  have z5 : IsZs g5 z u v .ellipsis := s5.extBut _ _ D.TOz.symm (s4.extBut _ _ D.i2z.symm (s3.extBut _ _ D.TOz.symm (s2.extBut _ _ D.i1z.symm z1)))
  have k5 : ∀ c o, c ≠ z → c ≠ v → c ≠ i → c ≠ j → s.heap.get? c = some o → g5.get? c = some o := fun c o a1 a2 a3 a4 q => s5.extBut _ _ a2 (s4.extBut _ _ a4 (s3.extBut _ _ a2 (s2.extBut _ _ a3 (s1.extBut _ _ a1 q))))
  have i5 : g5.IsListIter i l (k + 1) := ((i2.extBut s3.extBut D.TOi1.symm).extBut s4.extBut D.i12).extBut s5.extBut D.TOi1.symm
  have j5 : g5.IsListIter j m (n + 1) := j4.extBut s5.extBut D.TOi2.symm
  have zlt : z < g5.objs.size := Heap.lt_size z5
  show wpAny _ _ (Builtin.SmallTypes.ownedTupleHandOut (.ref z) (.ref g5.objs.size) >>= _) _ _ _
  refine wpAny_bind ?_
  unfold Builtin.SmallTypes.ownedTupleHandOut
  have z6 : IsZs (g5.push { cls := .type "tuple", data := .seq #[x, y] }) z u v .ellipsis := Heap.get?_push_of_some _ z5
  refine wpAny_bind (wpAny_setField_rec z6 (by simp) fun g7 z7 s7 => ?_)
  replace z7 : IsZs g7 z u v (rawInt g5.objs.size) := z7
  refine wpAny_setField_rec z7 (by simp) fun g8 z8 s8 => ?_
  replace z8 : IsZs g8 z u v (rawInt g5.objs.size) := z8
  have up : ∀ c o, c ≠ z → g5.get? c = some o → g8.get? c = some o := fun c o a1 q => s8.extBut _ _ a1 (s7.extBut _ _ a1 (Heap.get?_push_of_some _ q))
  have t8 : IsPair g8 g5.objs.size x y := s8.extBut _ _ (Nat.ne_of_gt zlt) (s7.extBut _ _ (Nat.ne_of_gt zlt) (Heap.get?_push_size _ rfl))
  have len8 : g8.objs.size = g5.objs.size + 1 := by rw [s8.1, s7.1, Heap.size_push]
  rw [len] at z8 t8 len8
  refine wpAny_pure ⟨_, rfl, ?_⟩
  show Q (.ref g5.objs.size) _
  rw [len]
  exact hQ g8 z8 (up _ _ D.TOz v5) (i5.at fun o q => up _ o D.i1z q) (j5.at fun o q => up _ o D.i2z q) t8 len8 fun c o a1 a2 a3 a4 q => up c o a1 (k5 c o a1 a2 a3 a4 q)
theorem zs_over {z u v i j l m : Addr} {k n : Nat} {xs ys : Array Value} {a b : Value} {Q : Fin → Shared → Prop} (hh : A.handled = none) (D : ZipApart z u v i j l m) (hz : IsZs s.heap z u v .none) (hu : IsPair s.heap u (.ref i) (.ref j)) (hv : IsPair s.heap v a b)
    (hi : s.heap.IsListIter i l k) (hj : s.heap.IsListIter j m n) (hl : s.heap.IsList l xs) (hm : s.heap.IsList m ys) (hx : xs[k]? = none) (hy : ys[n]? = none)
    (hE : ∀ g e, (∀ c o, c ≠ z → c ≠ v → c ≠ i → c ≠ j → s.heap.get? c = some o → g.get? c = some o) → (∃ o, g.get? e = some o ∧ o.cls = .type "StopIteration") → E (.ref e) { s with heap := g }) :
    wpAny (model P0 W0) A (Builtin.«zip.__next__» ⟨[.ref z], []⟩) Q E s := by
  show wpAny _ _ (field (.ref z) 2 >>= _) _ _ _
  refine wpAny_bind (wpAny_field hz rfl (x := .bool true) rfl ?_)
  show wpAny _ _ (field (.ref z) 3 >>= _) _ _ _
  refine wpAny_bind (wpAny_field hz rfl (x := .ref u) rfl (wpAny_bind (wpAny_seqItems hu rfl ?_)))
  show wpAny _ _ (Builtin.SmallTypes.ownedTupleIsFree (.ref z) >>= _) _ _ _
  refine wpAny_bind ?_
  unfold Builtin.SmallTypes.ownedTupleIsFree
  refine wpAny_bind (wpAny_field hz rfl (x := .none) rfl (wpAny_pure ?_))
  simp only [if_true]
  refine wpAny_bind (wpAny_rule (wpAny_bind (wpAny_field hz rfl (x := .ref v) rfl (wpAny_bind (wpAny_setField_rec hz (by simp) fun g1 z1 s1 => ?_)))))
  replace z1 : IsZs g1 z u v .ellipsis := z1
  refine wpAny_bind ?_
  simp only [List.zipIdx_cons, List.zipIdx_nil, List.forIn_cons, List.forIn_nil]
  refine wpAny_bind (wpAny_bind (wpAny_onRaise ?_))
  show wpAny _ _ (Builtin.SmallTypes.nextOrEnd (.ref i)) _ _ _
  refine zs_dry hh (hi.extBut s1.extBut D.i1z) (hl.extBut s1.extBut D.l1z) hx fun g2 s2 => ?_
  have z2 : IsZs g2 z u v .ellipsis := s2 _ _ D.i1z.symm z1
  refine wpAny_bind (wpAny_setField_rec z2 (by simp) fun g3 z3 s3 => ?_)
  refine wpAny_bind ?_
  show wpAny _ _ (((Builtin.SmallTypes.nextOrEnd (.ref j) >>= _) >>= _) >>= _) _ _ _
  refine wpAny_bind (wpAny_bind (wpAny_bind ?_))
  refine zs_dry hh (((hj.extBut s1.extBut D.i2z).extBut s2 D.i12.symm).extBut s3.extBut D.i2z) (((hm.extBut s1.extBut D.l2z).extBut s2 D.l2i1).extBut s3.extBut D.l2z) hy fun g4 s4 => ?_
  show wpAny _ _ (pure (ForInStep.yield PUnit.unit)) _ _ _
  refine wpAny_pure ?_
  show wpAny _ _ (pure PUnit.unit) _ _ _
  refine wpAny_pure (wpAny_bind (wpAny_rule (zs_stop hh fun g5 e k5 he => ?_)))
  exact hE g5 e (fun c o a1 _ a3 a4 q => k5 c o (s4 _ _ a4 (s3.extBut _ _ a1 (s2 _ _ a3 (s1.extBut _ _ a1 q))))) he
theorem zs_sub {z u v : Addr} {f : Value} (hz : IsZs s.heap z u v f) : s.TypeIs (.ref z) "zip" := ⟨_, hz, rfl⟩
theorem zs_next {z u v i j l m : Addr} {k n : Nat} {xs ys : Array Value} {x y a b : Value} {Q : Option Value → Shared → Prop} (D : ZipApart z u v i j l m) (hz : IsZs s.heap z u v .none) (hu : IsPair s.heap u (.ref i) (.ref j)) (hv : IsPair s.heap v a b)
    (hi : s.heap.IsListIter i l k) (hj : s.heap.IsListIter j m n) (hl : s.heap.IsList l xs) (hm : s.heap.IsList m ys) (hx : xs[k]? = some x) (hy : ys[n]? = some y)
    (hQ : ∀ g, IsZs g z u v (rawInt s.heap.objs.size) → IsPair g v x y → g.IsListIter i l (k + 1) → g.IsListIter j m (n + 1) → IsPair g s.heap.objs.size x y → g.objs.size = s.heap.objs.size + 1 → (∀ c o, c ≠ z → c ≠ v → c ≠ i → c ≠ j → s.heap.get? c = some o → g.get? c = some o) → Q (some (.ref s.heap.objs.size)) { s with heap := g }) :
    wpAny (model P0 W0) A (pyNext (.ref z)) Q E s := by
  unfold pyNext
  refine wpAny_bind (wpAny_attempt (wpAny_callSpecial?_slot (name := Str.ofString "__next__") (zs_sub hz) F.slot_zip_next ?_))
  exact wpAny_call_entry F.slot_zip_next (zs_sub hz) F.entry_zip_next (zs_give D hz hu hv hi hj hl hm hx hy fun g b1 b2 b3 b4 b5 b6 b7 => wpAny_pure (hQ g b1 b2 b3 b4 b5 b6 b7)) (F.args_zip_next_1 _)
theorem zs_last {z u v i j l m : Addr} {k n : Nat} {xs ys : Array Value} {a b : Value} {Q : Option Value → Shared → Prop} (hh : A.handled = none) (D : ZipApart z u v i j l m) (hz : IsZs s.heap z u v .none) (hu : IsPair s.heap u (.ref i) (.ref j)) (hv : IsPair s.heap v a b)
    (hi : s.heap.IsListIter i l k) (hj : s.heap.IsListIter j m n) (hl : s.heap.IsList l xs) (hm : s.heap.IsList m ys) (hx : xs[k]? = none) (hy : ys[n]? = none)
    (hQ : ∀ g, (∀ c o, c ≠ z → c ≠ v → c ≠ i → c ≠ j → s.heap.get? c = some o → g.get? c = some o) → Q none { s with heap := g }) :
    wpAny (model P0 W0) A (pyNext (.ref z)) Q E s := by
  unfold pyNext
  refine wpAny_bind (wpAny_attempt (wpAny_callSpecial?_slot (name := Str.ofString "__next__") (zs_sub hz) F.slot_zip_next ?_))
  refine wpAny_call_entry F.slot_zip_next (zs_sub hz) F.entry_zip_next (zs_over hh D hz hu hv hi hj hl hm hx hy fun g e kk ⟨o, ho, hc⟩ => ?_) (F.args_zip_next_1 _)
  exact wpAny_bind (wpAny_isInstance (T := "StopIteration") (b := true) ⟨o, ho, hc⟩ isSubtype_stop (wpAny_pure (hQ _ kk)))
theorem zs_free {elts : List Expr} {kk : Nat} {pos : Pos} {z u v t : Addr} {Q : Unit → Shared → Prop} (hz : IsZs s.heap z u v (rawInt t)) (hQ : ∀ g, IsZs g z u v .none → Heap.SameBut z s.heap g → Q () { s with heap := g }) :
    wpAny (model P0 W0) A (letOwnedTupleGo (.Tuple elts kk pos) (.ref z) (.ref t)) Q E s := by
  unfold letOwnedTupleGo
  refine wpAny_bind (wpAny_load hz ?_)
  show wpAny _ _ (if (List.contains ["enumerate", "zip", "dict_itemiterator", "dict_reverseitemiterator", "odict_iterator", "itertools.zip_longest", "itertools.pairwise"] "zip" && (#[rawInt t, .bool false, .bool true, .ref u, .ref v] : Array Value)[0]? == some (rawInt t)) = true then _ else _) Q E s
  rw [if_pos (by simp)]
  refine wpAny_bind (wpAny_rule ?_)
  show wpAny _ _ (setField (.ref z) 0 .none) Q E s
  exact wpAny_setField_rec hz (by simp) fun g a b => hQ g a b
theorem zs_self {z u v : Addr} {f : Value} {Q : Value → Shared → Prop} (hz : IsZs s.heap z u v f) (h : Q (.ref z) s) : wpAny (model P0 W0) A (pyIter (.ref z)) Q E s := by
  refine wpAny_pyIter_slot (zs_sub hz) F.slot_zip_iter (wpAny_call_entry F.slot_zip_iter (zs_sub hz) F.entry_zip_iter ?_ (F.args_zip_iter_1 _))
  show wpAny _ _ (ret (.ref z)) _ _ s
  exact wpAny_pure ⟨_, rfl, "zip", _, zs_sub hz, F.slot_zip_next.lookup, h⟩
end
abbrev zsH (h : Heap) (l m : Addr) : Heap := (zipH4 h l m).push { cls := .type "zip", data := .fields #[.none, .bool false, .bool true, .ref (zipH2 h l m).objs.size, .ref (zipH3 h l m).objs.size] }
theorem zs_type (a b : Value) : checkTypeCall "zip" ⟨[a, b], [(Str.ofString "strict", .bool true)]⟩ = pure () := by kernel_rfl
theorem zs_new (a b : Value) : checkBuiltinCall "zip.__new__" ⟨[.type "zip", a, b], [(Str.ofString "strict", .bool true)]⟩ = pure () := by kernel_rfl
theorem zs_args (obj a b : Value) : argsOk "object.__init__" ⟨[obj, a, b], [(Str.ofString "strict", .bool true)]⟩ := by unfold argsOk; kernel_rfl
theorem zs_meets (l m : Addr) (xs ys : Array Value) :
    Meets (Builtin.«zip.__new__» ⟨[.type "zip", .ref l, .ref m], [(Str.ofString "strict", .bool true)]⟩) (fun _ R s => s.heap.IsList l xs ∧ s.heap.IsList m ys ∧ R (.ok (.ret (.ref (zipH4 s.heap l m).objs.size))) { s with heap := zsH s.heap l m }) :=
  .of_wp fun prog w A R s h => by
    obtain ⟨hp, g, d, tk, os⟩ := s
    obtain ⟨h1, h2, h⟩ := h
    have hsub := sub_zip
    have e1 : (Str.ofString "strict" == ("strict" : Str)) = true := by decide +kernel
    have e2 : (Str.ofString "strict" != ("strict" : Str)) = false := by decide +kernel
    have b1 : Heap.IsList (Shared.heap ⟨hp, g, d, tk, os⟩) l xs := h1
    have b2 : Heap.IsList (Shared.heap ⟨hp.push { cls := .type "list_iterator", data := .fields #[.ref l, .int 0 0] }, g, d, tk, os⟩) m ys := Heap.IsList.push h2 _
    wp_walk using wpAny_pyIter_list b1, wpAny_pyIter_list b2
    exact ⟨_, rfl, h⟩
end PySem

set_option Elab.async false
set_option linter.all false
set_option maxRecDepth 100000
set_option maxHeartbeats 2000000
/-! ### 28. zip(l, m, strict=True): its call, its turns, the rule -/
namespace PySem
section
variable {P0 : Program} {W0 : World} {A : Around} {E : Value → Shared → Prop} {s : Shared}
theorem zs_call {l m : Addr} {xs ys : Array Value} {Q : Value → Shared → Prop} (hl : s.heap.IsList l xs) (hm : s.heap.IsList m ys)
    (h : ∀ g, IsZs g (s.heap.objs.size + 4) (s.heap.objs.size + 2) (s.heap.objs.size + 3) .none → IsPair g (s.heap.objs.size + 2) (.ref s.heap.objs.size) (.ref (s.heap.objs.size + 1)) → IsPair g (s.heap.objs.size + 3) .none .none → g.IsListIter s.heap.objs.size l 0 → g.IsListIter (s.heap.objs.size + 1) m 0 → (∀ c o, s.heap.get? c = some o → g.get? c = some o) → Q (.ref (s.heap.objs.size + 4)) { s with heap := g }) :
    wpAny (model P0 W0) A (call (.type "zip") [.ref l, .ref m] [(Str.ofString "strict", .bool true)]) Q E s := by
  refine callType_newKw F.called_zip (by decide) (zs_type _ _) (zs_new _ _) (fun obj => zs_args obj _ _) F.entry_zip_new (zs_meets l m xs ys) ⟨hl, hm, ?_⟩
  have n1 : (zipH1 s.heap l).objs.size = s.heap.objs.size + 1 := Heap.size_push ..
  have n2 : (zipH2 s.heap l m).objs.size = s.heap.objs.size + 2 := by rw [Heap.size_push, n1]
  have n3 : (zipH3 s.heap l m).objs.size = s.heap.objs.size + 3 := by rw [Heap.size_push, n2]
  have n4 : (zipH4 s.heap l m).objs.size = s.heap.objs.size + 4 := by rw [Heap.size_push, n3]
  have c5 : (zsH s.heap l m).get? (zipH4 s.heap l m).objs.size = some _ := Heap.get?_push_size _ rfl
  have c4 : (zsH s.heap l m).get? (zipH3 s.heap l m).objs.size = some _ := Heap.get?_push_of_some _ (Heap.get?_push_size _ rfl)
  have c3 : (zsH s.heap l m).get? (zipH2 s.heap l m).objs.size = some _ := Heap.get?_push_of_some _ (Heap.get?_push_of_some _ (Heap.get?_push_size _ rfl))
  have c2 : (zsH s.heap l m).get? (zipH1 s.heap l).objs.size = some _ := Heap.get?_push_of_some _ (Heap.get?_push_of_some _ (Heap.get?_push_of_some _ (Heap.get?_push_size _ rfl)))
  have c1 : (zsH s.heap l m).get? s.heap.objs.size = some _ := Heap.get?_push_of_some _ (Heap.get?_push_of_some _ (Heap.get?_push_of_some _ (Heap.get?_push_of_some _ (Heap.get?_push_size _ rfl))))
  show _ ∧ _
  rw [n2, n3, n4] at c5
  rw [n1, n2] at c3
  rw [n3] at c4
  rw [n1] at c2
  rw [n4]
  refine ⟨⟨_, c5, rfl⟩, h _ c5 c3 c4 ⟨_, c1, rfl, rfl⟩ ⟨_, c2, rfl, rfl⟩ fun c o q => ?_⟩
  exact Heap.get?_push_of_some _ (Heap.get?_push_of_some _ (Heap.get?_push_of_some _ (Heap.get?_push_of_some _ (Heap.get?_push_of_some _ q))))
end
section
variable {M : Model} {A : Around} {E : Value → Shared → Prop} {s : Shared} {env : Env}
open PyProof.Rows
theorem zs_with {pos : Pos} {T : String} {args : List (Bool × Sem Value)} {kws : List (Option Str × Sem Value)} {Q : Value → Shared → Prop} (hp : args.any (·.1) = false) (hk : kws.any (·.1.isNone) = false)
    (h : wpAny M A (evalArgs (.type T) true args kws) (fun a t => wpAny M A (call (.type T) ([] ++ a.pos) a.kw) Q E t) E s) : wpAny M A (callWith pos (.type T) [] args kws) Q E s := by
  unfold callWith
  refine wpAny_bind (wpAny_holding (L2.thn h fun a t ht => wpAny_bind (wpAny_standAt ?_)))
  simp only [hp, hk, Bool.or_false]
  exact wpAny_bind (wpAny_pure (wpAny_bind (L2.thn ht fun r s2 hr => wpAny_bind (wpAny_holding (wpAny_point (wpAny_pure hr))))))
theorem zs_typeKw {pos : Pos} {T : String} {e : Expr} {rest : List Expr} {kws : List Keyword} {Q : Value → Shared → Prop}
    (h : wpAny M A (spliced (backTo pos (starEach (e :: rest) env))) (fun vs t => wpAny M A (evalAll ((backToKw pos (keywordEach kws env)).map (·.2))) (fun ws t2 => wpAny M A (call (.type T) vs (((backToKw pos (keywordEach kws env)).filterMap (·.1)).zip ws)) Q E t2) E t) E s)
    (he : backTo pos (starEach (e :: rest) env) = (false, eval e env) :: backTo pos (starEach rest env)) (hp : (backTo pos (starEach (e :: rest) env)).any (·.1) = false)
    (ha : (backToKw pos (keywordEach kws env)).all (·.1.isSome) = true) (hk : (backToKw pos (keywordEach kws env)).any (·.1.isNone) = false) :
    wpAny M A (callWith pos (.type T) [] (backTo pos (starEach (e :: rest) env)) (backToKw pos (keywordEach kws env))) Q E s := by
  refine zs_with hp hk ?_
  rw [he] at h ⊢
  exact evalArgs_kwB ha h
end
end PySem
namespace Pw
open PySem PySem.Spec PySem.W L2
open PyProof.Rows hiding St
open Evl (sq_of st_of)
theorem turn_zipS {P : Program} {w : World} {K : PySem.W.Frag} {elts : List Expr} {kk : Nat} {tp : Pos} {a b z u v i1 i2 : Addr} (D : ZipApart z u v i1 i2 a b) :
    Turn P w K (.Tuple elts kk tp) (ItzS K a b) [z, u, v, i1, i2] z (fun i h => IsZs h z u v .none ∧ IsPair h u (.ref i1) (.ref i2) ∧ (∃ x y, IsPair h v x y) ∧ h.IsListIter i1 a i ∧ h.IsListIter i2 b i) where
  mem := by simp
  obj := fun i h st c hc => by
    obtain ⟨hz, hu, ⟨x, y, hv⟩, ⟨o1, e1, _, d1⟩, ⟨o2, e2, _, d2⟩⟩ := st
    have five : c = z ∨ c = u ∨ c = v ∨ c = i1 ∨ c = i2 := by simpa using hc
    rcases five with rfl | rfl | rfl | rfl | rfl
    · exact ⟨_, hz, fun v q => nomatch q⟩
    · exact ⟨_, hu, fun v q => nomatch q⟩
    · exact ⟨_, hv, fun v q => nomatch q⟩
    · exact ⟨o1, e1, fun v q => by rw [d1] at q; cases q⟩
    · exact ⟨o2, e2, fun v q => by rw [d2] at q; cases q⟩
  keep := fun i h h' st k => by
    obtain ⟨hz, hu, ⟨x, y, hv⟩, h1, h2⟩ := st
    exact ⟨k z (by simp) _ hz, k u (by simp) _ hu, ⟨x, y, k v (by simp) _ hv⟩, h1.at fun o q => k i1 (by simp) o q, h2.at fun o q => k i2 (by simp) o q⟩
  item := by
    intro X hP hw hK hc i pins s σ H E I hf st hg
    subst hP hw hK
    obtain ⟨hz, hu, ⟨x0, y0, hv⟩, h1, h2⟩ := st
    obtain ⟨xs, ys, x, y, qx, qy, hx, hy⟩ := hg
    obtain ⟨its, rv, p, _⟩ := I.list qx
    obtain ⟨jts, rw', p2, _⟩ := I.list qy
    obtain ⟨a1, ha1, ra1⟩ := rv.get hx
    obtain ⟨a2, ha2, ra2⟩ := rw'.get hy
    have zl : z < s.heap.objs.size := Heap.lt_size hz
    refine zs_next D hz hu hv h1 h2 p.isList p2.isList (x := a1) (y := a2) (by simpa using ha1) (by simpa using ha2) fun h' z' v' h1' h2' hT hsz hk => ?_
    refine ⟨_, rfl, zs_free (s := { s with heap := h' }) z' fun h'' z'' sb => ?_⟩
    have hT2 : h''.get? s.heap.objs.size = some { cls := .type "tuple", data := .seq #[a1, a2] } := (sb.2 _ (Nat.ne_of_gt zl)).trans hT
    have new : ObjOk X.prog X.w (upd H s.heap.objs.size (.tup [x, y])) h'' s.heap.objs.size (.tup [x, y]) := ⟨by show 2 ≤ sizeLine; decide, [a1, a2], .cons ra1 (.cons ra2 .nil), ⟨_, hT2, rfl, _, rfl⟩⟩
    have I1 : Inv X pins σ (upd H s.heap.objs.size (.tup [x, y])) { s with heap := h'' } := I.turnedNew (t' := s.toks) (ch := [z, u, v, i1, i2]) (fun c o hb q => (sb.2 c (fun q' => hb (by simp [q']))).trans
      (hk c o (fun q' => hb (by simp [q'])) (fun q' => hb (by simp [q'])) (fun q' => hb (by simp [q'])) (fun q' => hb (by simp [q'])) q)) hf (Nat.le_refl _) new
    refine ⟨.ref s.heap.objs.size, _, I1, rfl, ⟨_, x, y, rfl, I.hok.fresh (Nat.le_refl _), rfl, fun l hl => by rw [I.list_inj hl qx]; exact hx, fun l hl => by rw [I.list_inj hl qy]; exact hy⟩, ⟨z'', ?_, ⟨a1, a2, ?_⟩, ?_, ?_⟩, fun c hcm => ?_⟩
    · exact (sb.2 _ D.TIz).trans (hk _ _ D.TIz D.TITO D.TIi1 D.TIi2 hu)
    · exact (sb.2 _ D.TOz).trans v'
    · exact h1'.at fun o q => (sb.2 _ D.i1z).trans q
    · exact h2'.at fun o q => (sb.2 _ D.i2z).trans q
    · have five : c = z ∨ c = u ∨ c = v ∨ c = i1 ∨ c = i2 := by simpa using hcm
      have lt : c < s.heap.objs.size := by
        rcases five with q | q | q | q | q <;> rw [q]
        · exact zl
        · exact Heap.lt_size hu
        · exact Heap.lt_size hv
        · obtain ⟨_, e1, _⟩ := h1; exact Heap.lt_size e1
        · obtain ⟨_, e2, _⟩ := h2; exact Heap.lt_size e2
      rw [upd_ne (Nat.ne_of_lt lt)]
      exact (hf c hcm).1
  done := by
    intro X hP hw hK hc i pins s σ H E I hf st hg
    subst hP hw hK
    obtain ⟨hz, hu, ⟨x0, y0, hv⟩, h1, h2⟩ := st
    obtain ⟨xs, ys, qx, qy, ex, ey⟩ := hg
    obtain ⟨its, rv, p, _⟩ := I.list qx
    obtain ⟨jts, rw', p2, _⟩ := I.list qy
    have l1 := rv.length
    have l2 := rw'.length
    refine zs_last (I.ok.hd hc) D hz hu hv h1 h2 p.isList p2.isList (by simp; omega) (by simp; omega) fun h' hk => ⟨rfl, I.turnedL (t' := s.toks) (ch := [z, u, v, i1, i2]) (fun c o hb q => ?_) hf⟩
    exact hk c o (fun q' => hb (by simp [q'])) (fun q' => hb (by simp [q'])) (fun q' => hb (by simp [q'])) (fun q' => hb (by simp [q'])) q
  self := fun A i s Q E st h => zs_self st.1 h
theorem zip_rule : ZipRule := by
  intro X x y p p1 p2 pos tpos kp vp ta elts kk kz hc hg hm ha
  refine ⟨fun pins s σ H R I h => ?_⟩
  refine wpAny_Call_Name_kw (ld_blt I hg hm PyProof.Rows.boot_zip (zs_typeKw (thn (ha.run pos pins s σ H _ I h) fun us s1 ⟨vs, H1, I1, r1, q1⟩ => ?_) rfl rfl rfl rfl))
  obtain ⟨a, b, xs, ys, ex, qx, qy, q⟩ := q1
  subst ex
  refine kws_cons (PyProof.Rows.Constant_bool (kws_nil ?_))
  cases r1 with
  | cons r rr =>
    cases rr with
    | cons r' rr =>
      cases rr
      cases r
      cases r'
      obtain ⟨its, rv, g1, _⟩ := I1.list qx
      obtain ⟨jts, rv2, g2, _⟩ := I1.list qy
      show wpAny _ _ (call (.type "zip") [.ref a, .ref b] [(Str.ofString "strict", .bool true)]) _ _ _
      refine zs_call g1.isList g2.isList fun h' hz hu hv h1 h2 hk => zs_self hz ?_
      have I2 : Inv X pins σ H1 { s1 with heap := h' } := I1.kept (t' := s1.toks) hk
      refine ⟨s1.heap.objs.size + 4, [s1.heap.objs.size + 4, s1.heap.objs.size + 2, s1.heap.objs.size + 3, s1.heap.objs.size, s1.heap.objs.size + 1], _, _, H1, rfl, I2, turn_zipS (PySem.W.ktu_apart s1.heap.objs.size a b g1.lt g2.lt), ⟨hz, hu, ⟨_, _, hv⟩, h1, h2⟩, fun c hcm => ?_, q⟩
      have five : c = s1.heap.objs.size + 4 ∨ c = s1.heap.objs.size + 2 ∨ c = s1.heap.objs.size + 3 ∨ c = s1.heap.objs.size ∨ c = s1.heap.objs.size + 1 := by simpa using hcm
      have le : s1.heap.objs.size ≤ c := by rcases five with q | q | q | q | q <;> rw [q] <;> first | exact Nat.le_refl _ | exact Nat.le_add_right _ _
      exact I1.fpOk le (I1.hok.fresh le)
end Pw

set_option Elab.async false
set_option linter.all false
set_option maxRecDepth 1000000
set_option maxHeartbeats 0
namespace K7
open PySem PySem.Spec PySem.W L2 He
open PyProof.Rows hiding St
/-- the keyword default x of the def at p, if it is an object -/
def kwdAt (p : Str × Option Str) (x : Str) (K : PySem.W.Frag) : Addr := match K.lookup (fAd K p) with
  | some ⟨_, _, .func fd, _⟩ => (match fd.kwdefaults with
    | .ref D => (match PySem.W.nsIn K D x with
      | some (some (.ref a)) => a
      | _ => 0)
    | _ => 0)
  | _ => 0
def hfa0 : List Fa := [.free "IndexError",
  .free "KeyError",
  .free "LookupError",
  .free "ValueError",
  .free "abs",
  .free "all",
  .free "any",
  .free "bool",
  .free "dict",
  .free "enumerate",
  .free "int",
  .free "isinstance",
  .free "len",
  .free "list",
  .free "max",
  .free "min",
  .free "range",
  .free "sorted",
  .free "str",
  .free "tuple",
  .free "zip",
  .str "LETTERS" "abcdefghijklmnopqrstuvwxyz",
  .int "LONGEST_NAME" 12,
  .glo "Job",
  .cls "Job",
  .noat "Job" "kind",
  .noat "Job" "place",
  .noat "Job" "came",
  .noat "Job" "arrived",
  .noat "Job" "freed"]
def hfa1 : List Fa := [.noat "Job" "load",
  .noat "Job" "ticks",
  .noat "Job" "ended",
  .noat "Job" "barriers",
  .glo "Era",
  .cls "Era",
  .noat "Era" "model",
  .noat "Era" "own",
  .noat "Era" "strange",
  .glo "Story",
  .cls "Story",
  .noat "Story" "until",
  .noat "Story" "turned",
  .noat "Story" "lost",
  .noat "Story" "lived",
  .noat "Story" "names",
  .noat "Story" "house",
  .glo "House",
  .cls "House",
  .noat "House" "plans",
  .noat "House" "first",
  .noat "House" "heard",
  .noat "House" "wanted",
  .noat "House" "hour",
  .glo "Plan",
  .cls "Plan",
  .noat "Plan" "by_name",
  .noat "Plan" "by_rank",
  .noat "Plan" "ceilings",
  .glo "Task"]
def hfa2 : List Fa := [.cls "Task",
  .noat "Task" "name",
  .noat "Task" "rank",
  .noat "Task" "gap",
  .noat "Task" "most",
  .noat "Task" "due",
  .noat "Task" "wait",
  .noat "Task" "sections",
  .glo "need_wish",
  .glo "jobs_of",
  .glo "let_in",
  .mkr "Job",
  .meth "Job" "sections_now",
  .meth "Job" "urgency",
  .meth "Job" "goal",
  .meth "Job" "is_struck",
  .meth "Job" "turns",
  .glo "jobs_in",
  .glo "next_release",
  .glo "added",
  .glo "worked",
  .glo "told_of",
  .glo "played",
  .mkr "Era",
  .meth "Era" "let",
  .meth "Era" "unknown",
  .mkr "Story",
  .meth "Story" "walk",
  .meth "Story" "note",
  .meth "Story" "changed"]
def hfa3 : List Fa := [.mkr "House",
  .meth "House" "now",
  .meth "House" "need_hour",
  .meth "House" "wish",
  .meth "House" "change",
  .meth "House" "run",
  .meth "House" "plan",
  .meth "House" "changes",
  .meth "House" "dropped",
  .meth "House" "jobs",
  .mkr "Plan",
  .meth "Plan" "__len__",
  .meth "Plan" "tasks",
  .meth "Plan" "task",
  .meth "Plan" "locks",
  .meth "Plan" "ceiling",
  .meth "Plan" "above",
  .meth "Plan" "holding",
  .meth "Plan" "held_back",
  .glo "is_name",
  .glo "is_whole",
  .glo "is_section",
  .glo "lies_within",
  .glo "go_together",
  .glo "are_sections",
  .glo "written_place",
  .glo "bad_part",
  .mkr "Task",
  .meth "Task" "all_of_it",
  .meth "Task" "__eq__"]
def hfa4 : List Fa := [.glo "_law_deck",
  .glo "_law_of",
  .glo "_law_called",
  .glo "_law_task",
  .glo "_law_plan",
  .glo "_law_house",
  .glo "_law_one_after_other",
  .glo "_law_one",
  .glo "_law_gone_on",
  .glo "law"]
def hfa : List Fa := hfa0 ++ (hfa1 ++ (hfa2 ++ (hfa3 ++ (hfa4))))
def hd_need_wish : DefD := ⟨("need_wish", none), "need_wish", "need_wish", defArgs (top 11), defBody (top 11), defScope (top 11), [], []⟩
def hd_jobs_of : DefD := ⟨("jobs_of", none), "jobs_of", "jobs_of", defArgs (top 12), defBody (top 12), defScope (top 12), [], []⟩
def hd_let_in : DefD := ⟨("let_in", none), "let_in", "let_in", defArgs (top 13), defBody (top 13), defScope (top 13), [], [("gate", .bl true)]⟩
def hd_Job_init : DefD := ⟨("Job", some "__init__"), "__init__", "Job.__init__", defArgs (inClass (top 15) 0), defBody (inClass (top 15) 0), defScope (inClass (top 15) 0), [], []⟩
def hd_Job_sections_now : DefD := ⟨("Job", some "sections_now"), "sections_now", "Job.sections_now", defArgs (inClass (top 15) 1), defBody (inClass (top 15) 1), defScope (inClass (top 15) 1), [], []⟩
def hd_Job_urgency : DefD := ⟨("Job", some "urgency"), "urgency", "Job.urgency", defArgs (inClass (top 15) 2), defBody (inClass (top 15) 2), defScope (inClass (top 15) 2), [], []⟩
def hd_Job_goal : DefD := ⟨("Job", some "goal"), "goal", "Job.goal", defArgs (inClass (top 15) 3), defBody (inClass (top 15) 3), defScope (inClass (top 15) 3), [], []⟩
def hd_Job_is_struck : DefD := ⟨("Job", some "is_struck"), "is_struck", "Job.is_struck", defArgs (inClass (top 15) 4), defBody (inClass (top 15) 4), defScope (inClass (top 15) 4), [], []⟩
def hd_Job_turns : DefD := ⟨("Job", some "turns"), "turns", "Job.turns", defArgs (inClass (top 15) 5), defBody (inClass (top 15) 5), defScope (inClass (top 15) 5), [], []⟩
def hd_jobs_in : DefD := ⟨("jobs_in", none), "jobs_in", "jobs_in", defArgs (top 16), defBody (top 16), defScope (top 16), [], []⟩
def hd_next_release : DefD := ⟨("next_release", none), "next_release", "next_release", defArgs (top 17), defBody (top 17), defScope (top 17), [], []⟩
def hd_added : DefD := ⟨("added", none), "added", "added", defArgs (top 18), defBody (top 18), defScope (top 18), [], []⟩
def hd_worked : DefD := ⟨("worked", none), "worked", "worked", defArgs (top 19), defBody (top 19), defScope (top 19), [], []⟩
def hd_told_of : DefD := ⟨("told_of", none), "told_of", "told_of", defArgs (top 20), defBody (top 20), defScope (top 20), [], []⟩
def hd_played : DefD := ⟨("played", none), "played", "played", defArgs (top 21), defBody (top 21), defScope (top 21), [], [("guard", .bl true)]⟩
def hd_Era_init : DefD := ⟨("Era", some "__init__"), "__init__", "Era.__init__", defArgs (inClass (top 23) 0), defBody (inClass (top 23) 0), defScope (inClass (top 23) 0), [], []⟩
def hd_Era_let : DefD := ⟨("Era", some "let"), "let", "Era.let", defArgs (inClass (top 23) 1), defBody (inClass (top 23) 1), defScope (inClass (top 23) 1), [], []⟩
def hd_Era_unknown : DefD := ⟨("Era", some "unknown"), "unknown", "Era.unknown", defArgs (inClass (top 23) 2), defBody (inClass (top 23) 2), defScope (inClass (top 23) 2), [], []⟩
def hd_Story_init : DefD := ⟨("Story", some "__init__"), "__init__", "Story.__init__", defArgs (inClass (top 24) 0), defBody (inClass (top 24) 0), defScope (inClass (top 24) 0), [], []⟩
def hd_Story_walk : DefD := ⟨("Story", some "walk"), "walk", "Story.walk", defArgs (inClass (top 24) 1), defBody (inClass (top 24) 1), defScope (inClass (top 24) 1), [], []⟩
def hd_Story_note : DefD := ⟨("Story", some "note"), "note", "Story.note", defArgs (inClass (top 24) 2), defBody (inClass (top 24) 2), defScope (inClass (top 24) 2), [], []⟩
def hd_Story_changed : DefD := ⟨("Story", some "changed"), "changed", "Story.changed", defArgs (inClass (top 24) 3), defBody (inClass (top 24) 3), defScope (inClass (top 24) 3), [], []⟩
def hd_House_init : DefD := ⟨("House", some "__init__"), "__init__", "House.__init__", defArgs (inClass (top 25) 0), defBody (inClass (top 25) 0), defScope (inClass (top 25) 0), [], []⟩
def hd_House_now : DefD := ⟨("House", some "now"), "now", "House.now", defArgs (inClass (top 25) 1), defBody (inClass (top 25) 1), defScope (inClass (top 25) 1), [], []⟩
def hd_House_need_hour : DefD := ⟨("House", some "need_hour"), "need_hour", "House.need_hour", defArgs (inClass (top 25) 2), defBody (inClass (top 25) 2), defScope (inClass (top 25) 2), [], []⟩
def hd_House_wish : DefD := ⟨("House", some "wish"), "wish", "House.wish", defArgs (inClass (top 25) 3), defBody (inClass (top 25) 3), defScope (inClass (top 25) 3), [], []⟩
def hd_House_change : DefD := ⟨("House", some "change"), "change", "House.change", defArgs (inClass (top 25) 4), defBody (inClass (top 25) 4), defScope (inClass (top 25) 4), [], []⟩
def hd_House_run : DefD := ⟨("House", some "run"), "run", "House.run", defArgs (inClass (top 25) 5), defBody (inClass (top 25) 5), defScope (inClass (top 25) 5), [], []⟩
def hd_House_plan : DefD := ⟨("House", some "plan"), "plan", "House.plan", defArgs (inClass (top 25) 6), defBody (inClass (top 25) 6), defScope (inClass (top 25) 6), [], []⟩
def hd_House_changes : DefD := ⟨("House", some "changes"), "changes", "House.changes", defArgs (inClass (top 25) 7), defBody (inClass (top 25) 7), defScope (inClass (top 25) 7), [], []⟩
def hd_House_dropped : DefD := ⟨("House", some "dropped"), "dropped", "House.dropped", defArgs (inClass (top 25) 8), defBody (inClass (top 25) 8), defScope (inClass (top 25) 8), [], []⟩
def hd_House_jobs : DefD := ⟨("House", some "jobs"), "jobs", "House.jobs", defArgs (inClass (top 25) 9), defBody (inClass (top 25) 9), defScope (inClass (top 25) 9), [], []⟩
def hd_Plan_init : DefD := ⟨("Plan", some "__init__"), "__init__", "Plan.__init__", defArgs (inClass (top 27) 0), defBody (inClass (top 27) 0), defScope (inClass (top 27) 0), [.adr (dflAt ("Plan", some "__init__") 0)], []⟩
def hd_Plan_len : DefD := ⟨("Plan", some "__len__"), "__len__", "Plan.__len__", defArgs (inClass (top 27) 1), defBody (inClass (top 27) 1), defScope (inClass (top 27) 1), [], []⟩
def hd_Plan_tasks : DefD := ⟨("Plan", some "tasks"), "tasks", "Plan.tasks", defArgs (inClass (top 27) 2), defBody (inClass (top 27) 2), defScope (inClass (top 27) 2), [], []⟩
def hd_Plan_task : DefD := ⟨("Plan", some "task"), "task", "Plan.task", defArgs (inClass (top 27) 3), defBody (inClass (top 27) 3), defScope (inClass (top 27) 3), [], []⟩
def hd_Plan_locks : DefD := ⟨("Plan", some "locks"), "locks", "Plan.locks", defArgs (inClass (top 27) 4), defBody (inClass (top 27) 4), defScope (inClass (top 27) 4), [], []⟩
def hd_Plan_ceiling : DefD := ⟨("Plan", some "ceiling"), "ceiling", "Plan.ceiling", defArgs (inClass (top 27) 5), defBody (inClass (top 27) 5), defScope (inClass (top 27) 5), [], []⟩
def hd_Plan_above : DefD := ⟨("Plan", some "above"), "above", "Plan.above", defArgs (inClass (top 27) 6), defBody (inClass (top 27) 6), defScope (inClass (top 27) 6), [], []⟩
def hd_Plan_holding : DefD := ⟨("Plan", some "holding"), "holding", "Plan.holding", defArgs (inClass (top 27) 7), defBody (inClass (top 27) 7), defScope (inClass (top 27) 7), [], []⟩
def hd_Plan_held_back : DefD := ⟨("Plan", some "held_back"), "held_back", "Plan.held_back", defArgs (inClass (top 27) 8), defBody (inClass (top 27) 8), defScope (inClass (top 27) 8), [], []⟩
def hd_is_name : DefD := ⟨("is_name", none), "is_name", "is_name", defArgs (top 31), defBody (top 31), defScope (top 31), [], []⟩
def hd_is_whole : DefD := ⟨("is_whole", none), "is_whole", "is_whole", defArgs (top 32), defBody (top 32), defScope (top 32), [], [("least", .int 0)]⟩
def hd_is_section : DefD := ⟨("is_section", none), "is_section", "is_section", defArgs (top 34), defBody (top 34), defScope (top 34), [], []⟩
def hd_lies_within : DefD := ⟨("lies_within", none), "lies_within", "lies_within", defArgs (top 35), defBody (top 35), defScope (top 35), [], []⟩
def hd_go_together : DefD := ⟨("go_together", none), "go_together", "go_together", defArgs (top 36), defBody (top 36), defScope (top 36), [], []⟩
def hd_are_sections : DefD := ⟨("are_sections", none), "are_sections", "are_sections", defArgs (top 37), defBody (top 37), defScope (top 37), [], []⟩
def hd_written_place : DefD := ⟨("written_place", none), "written_place", "written_place", defArgs (top 38), defBody (top 38), defScope (top 38), [], []⟩
def hd_bad_part : DefD := ⟨("bad_part", none), "bad_part", "bad_part", defArgs (top 39), defBody (top 39), defScope (top 39), [], []⟩
def hd_Task_init : DefD := ⟨("Task", some "__init__"), "__init__", "Task.__init__", defArgs (inClass (top 40) 0), defBody (inClass (top 40) 0), defScope (inClass (top 40) 0), [], [("due", .non), ("wait", .int 0), ("sections", .adr (kwdAt ("Task", some "__init__") "sections"))]⟩
def hd_Task_all_of_it : DefD := ⟨("Task", some "all_of_it"), "all_of_it", "Task.all_of_it", defArgs (inClass (top 40) 1), defBody (inClass (top 40) 1), defScope (inClass (top 40) 1), [], []⟩
def hd_Task_eq : DefD := ⟨("Task", some "__eq__"), "__eq__", "Task.__eq__", defArgs (inClass (top 40) 2), defBody (inClass (top 40) 2), defScope (inClass (top 40) 2), [], []⟩
def hd__law_deck : DefD := ⟨("_law_deck", none), "_law_deck", "_law_deck", defArgs (top 42), defBody (top 42), defScope (top 42), [], []⟩
def hd__law_of : DefD := ⟨("_law_of", none), "_law_of", "_law_of", defArgs (top 43), defBody (top 43), defScope (top 43), [], []⟩
def hd__law_called : DefD := ⟨("_law_called", none), "_law_called", "_law_called", defArgs (top 44), defBody (top 44), defScope (top 44), [], []⟩
def hd__law_task : DefD := ⟨("_law_task", none), "_law_task", "_law_task", defArgs (top 45), defBody (top 45), defScope (top 45), [], []⟩
def hd__law_plan : DefD := ⟨("_law_plan", none), "_law_plan", "_law_plan", defArgs (top 46), defBody (top 46), defScope (top 46), [], []⟩
def hd__law_house : DefD := ⟨("_law_house", none), "_law_house", "_law_house", defArgs (top 47), defBody (top 47), defScope (top 47), [], []⟩
def hd__law_one_after_other : DefD := ⟨("_law_one_after_other", none), "_law_one_after_other", "_law_one_after_other", defArgs (top 48), defBody (top 48), defScope (top 48), [], []⟩
def hd__law_one : DefD := ⟨("_law_one", none), "_law_one", "_law_one", defArgs (top 49), defBody (top 49), defScope (top 49), [], []⟩
def hd__law_gone_on : DefD := ⟨("_law_gone_on", none), "_law_gone_on", "_law_gone_on", defArgs (top 50), defBody (top 50), defScope (top 50), [], []⟩
def hd_law : DefD := ⟨("law", none), "law", "law", defArgs (top 51), defBody (top 51), defScope (top 51), [], []⟩
def hfn0 : List DefD := [hd_need_wish,
  hd_jobs_of,
  hd_let_in,
  hd_Job_init,
  hd_Job_sections_now,
  hd_Job_urgency,
  hd_Job_goal,
  hd_Job_is_struck,
  hd_Job_turns,
  hd_jobs_in,
  hd_next_release,
  hd_added,
  hd_worked,
  hd_told_of,
  hd_played,
  hd_Era_init,
  hd_Era_let,
  hd_Era_unknown,
  hd_Story_init,
  hd_Story_walk,
  hd_Story_note,
  hd_Story_changed,
  hd_House_init,
  hd_House_now,
  hd_House_need_hour,
  hd_House_wish,
  hd_House_change,
  hd_House_run,
  hd_House_plan,
  hd_House_changes]
def hfn1 : List DefD := [hd_House_dropped,
  hd_House_jobs,
  hd_Plan_init,
  hd_Plan_len,
  hd_Plan_tasks,
  hd_Plan_task,
  hd_Plan_locks,
  hd_Plan_ceiling,
  hd_Plan_above,
  hd_Plan_holding,
  hd_Plan_held_back,
  hd_is_name,
  hd_is_whole,
  hd_is_section,
  hd_lies_within,
  hd_go_together,
  hd_are_sections,
  hd_written_place,
  hd_bad_part,
  hd_Task_init,
  hd_Task_all_of_it,
  hd_Task_eq,
  hd__law_deck,
  hd__law_of,
  hd__law_called,
  hd__law_task,
  hd__law_plan,
  hd__law_house,
  hd__law_one_after_other,
  hd__law_one]
def hfn2 : List DefD := [hd__law_gone_on,
  hd_law]
def hfn : List DefD := hfn0 ++ (hfn1 ++ (hfn2))
def hloose0 : List Str := ["_wall",
  "BadTask",
  "BadWork",
  "NoTask",
  "NoLock",
  "NoPlan",
  "Twice",
  "Past",
  "Shared",
  "need_wish",
  "jobs_of",
  "let_in",
  "Job",
  "jobs_in",
  "next_release",
  "added",
  "worked",
  "told_of",
  "played",
  "Era",
  "Story",
  "House",
  "Plan",
  "LETTERS",
  "LONGEST_NAME",
  "is_name",
  "is_whole",
  "is_section",
  "lies_within",
  "go_together"]
def hloose1 : List Str := ["are_sections",
  "written_place",
  "bad_part",
  "Task",
  "_law_deck",
  "_law_of",
  "_law_called",
  "_law_task",
  "_law_plan",
  "_law_house",
  "_law_one_after_other",
  "_law_one",
  "_law_gone_on"]
def hloose : List Str := hloose0 ++ (hloose1)
abbrev hR : PySem.W.OpenRow := PySem.W.OpenLaw.row PySem.Challenge.rw_promptworks_k77_held_wishes_count_anew
def emptyTup (K : PySem.W.Frag) (a : Addr) : Bool := match K.lookup a with
  | some ⟨.type c, _, .seq its _, _⟩ => decide (c = "tuple") && its.isEmpty
  | _ => false
def htf : List Defn := [("worked", none)]
def hex (K : PySem.W.Frag) : Bool := true
abbrev hk : PySem.W.Hook := hookX 5 hfa hfn [] htf hex
def hob (s : PySem.W.SharedT) : AlX := obsX 5 hfa hfn [] htf hex (HandSHeadRun.getT s)
theorem hob_eq (s : PySem.W.SharedT) : hob s = hk.obs s.abs := obsX_eq (HandSHeadRun.getT_eq s)
theorem hrun (w : World) : HandSHeadRun.RunEq hR (PySem.W.view hR.prog [51]) hk hob 6000 hloose w := by
  intro os
  kernel_rfl
end K7

set_option Elab.async false
set_option linter.all false
set_option maxRecDepth 1000000
set_option maxHeartbeats 0
namespace K7
open PySem PySem.Spec PySem.W L2 Pw He
open PyProof.Rows hiding St
/-! ### from the head's facts to the law's promise -/
def csOf (K : PySem.W.Frag) : Cs := ⟨ga K "Job", ga K "Era", ga K "Story", ga K "House", ga K "Plan", ga K "Task"⟩
section
variable {P : Program} {w : World} {K : PySem.W.Frag} {mg : Str → Option Value} {h base : Heap} {x q : Str} {st : Stmt} {params : Arguments} {body : List Stmt} {scope : Scope} {dvs : List V} {kws : List (Str × V)} {f : Addr} {fd : FuncData}
theorem fun_of (F : FunD K x q (defArgs st) (defBody st) (defScope st) [] kws f fd) : Fun K x q st f fd := ⟨by
  obtain ⟨oc, od, dV, kV, doc, pm, an, cdv, ct, osl, e, lk, hc, hD, _⟩ := F.ex
  rcases hD with ⟨_, rfl⟩ | ⟨e', _⟩
  · exact ⟨oc, od, kV, doc, pm, an, cdv, ct, osl, e, lk, hc⟩
  · exact absurd rfl e', F.kp⟩
theorem code_of {p : Defn} (F : FunD K x q params body scope dvs kws (fAd K p) fd) : fd.code = .ref (cT K p).1 := by
  obtain ⟨oc, od, dV, kV, doc, pm, an, cdv, ct, osl, e, lk, hc, _, _⟩ := F.ex
  obtain ⟨cc, ec⟩ := codeIn_ref hc
  have e2 : fd.code = .ref cc := by
    rw [e]
    exact ec
  show fd.code = .ref (codeOf K p)
  rw [codeOf_eq lk e2]
  exact e2
theorem vals_app {a b : List V} {u v : List Value} (r : Vals a u) (z : Vals b v) : Vals (a ++ b) (u ++ v) := by
  induction r with
  | nil => exact z
  | cons h _ ih => exact .cons h ih
theorem txt_of (KX : K.In h) (G : h.Ns mainGlobals mg) (c : SaysD hfa hfn K) : Txt K mg (csOf K) where
  b_IndexError := free_ok KX G (c.fact 0 rfl)
  b_KeyError := free_ok KX G (c.fact 1 rfl)
  b_LookupError := free_ok KX G (c.fact 2 rfl)
  b_ValueError := free_ok KX G (c.fact 3 rfl)
  b_abs := free_ok KX G (c.fact 4 rfl)
  b_all := free_ok KX G (c.fact 5 rfl)
  b_any := free_ok KX G (c.fact 6 rfl)
  b_bool := free_ok KX G (c.fact 7 rfl)
  b_dict := free_ok KX G (c.fact 8 rfl)
  b_enumerate := free_ok KX G (c.fact 9 rfl)
  b_int := free_ok KX G (c.fact 10 rfl)
  b_isinstance := free_ok KX G (c.fact 11 rfl)
  b_len := free_ok KX G (c.fact 12 rfl)
  b_list := free_ok KX G (c.fact 13 rfl)
  b_max := free_ok KX G (c.fact 14 rfl)
  b_min := free_ok KX G (c.fact 15 rfl)
  b_range := free_ok KX G (c.fact 16 rfl)
  b_sorted := free_ok KX G (c.fact 17 rfl)
  b_str := free_ok KX G (c.fact 18 rfl)
  b_tuple := free_ok KX G (c.fact 19 rfl)
  b_zip := free_ok KX G (c.fact 20 rfl)
  m_LETTERS := str_ok KX G (c.fact 21 rfl)
  m_LONGEST_NAME := int_ok KX G (c.fact 22 rfl)
  f_written_place := ⟨_, glo_ok KX G (c.fact 115 rfl)⟩
  m_Job := glo_ok KX G (c.fact 23 rfl)
  c_Job := cls_ok (c.fact 24 rfl)
  n_Job_kind := noat_ok (c.fact 25 rfl)
  n_Job_place := noat_ok (c.fact 26 rfl)
  n_Job_came := noat_ok (c.fact 27 rfl)
  n_Job_arrived := noat_ok (c.fact 28 rfl)
  n_Job_freed := noat_ok (c.fact 29 rfl)
  n_Job_load := noat_ok (c.fact 30 rfl)
  n_Job_ticks := noat_ok (c.fact 31 rfl)
  n_Job_ended := noat_ok (c.fact 32 rfl)
  n_Job_barriers := noat_ok (c.fact 33 rfl)
  m_Era := glo_ok KX G (c.fact 34 rfl)
  c_Era := cls_ok (c.fact 35 rfl)
  n_Era_model := noat_ok (c.fact 36 rfl)
  n_Era_own := noat_ok (c.fact 37 rfl)
  n_Era_strange := noat_ok (c.fact 38 rfl)
  m_Story := glo_ok KX G (c.fact 39 rfl)
  c_Story := cls_ok (c.fact 40 rfl)
  n_Story_until := noat_ok (c.fact 41 rfl)
  n_Story_turned := noat_ok (c.fact 42 rfl)
  n_Story_lost := noat_ok (c.fact 43 rfl)
  n_Story_lived := noat_ok (c.fact 44 rfl)
  n_Story_names := noat_ok (c.fact 45 rfl)
  n_Story_house := noat_ok (c.fact 46 rfl)
  m_House := glo_ok KX G (c.fact 47 rfl)
  c_House := cls_ok (c.fact 48 rfl)
  n_House_plans := noat_ok (c.fact 49 rfl)
  n_House_first := noat_ok (c.fact 50 rfl)
  n_House_heard := noat_ok (c.fact 51 rfl)
  n_House_wanted := noat_ok (c.fact 52 rfl)
  n_House_hour := noat_ok (c.fact 53 rfl)
  m_Plan := glo_ok KX G (c.fact 54 rfl)
  c_Plan := cls_ok (c.fact 55 rfl)
  n_Plan_by_name := noat_ok (c.fact 56 rfl)
  n_Plan_by_rank := noat_ok (c.fact 57 rfl)
  n_Plan_ceilings := noat_ok (c.fact 58 rfl)
  m_Task := glo_ok KX G (c.fact 59 rfl)
  c_Task := cls_ok (c.fact 60 rfl)
  n_Task_name := noat_ok (c.fact 61 rfl)
  n_Task_rank := noat_ok (c.fact 62 rfl)
  n_Task_gap := noat_ok (c.fact 63 rfl)
  n_Task_most := noat_ok (c.fact 64 rfl)
  n_Task_due := noat_ok (c.fact 65 rfl)
  n_Task_wait := noat_ok (c.fact 66 rfl)
  n_Task_sections := noat_ok (c.fact 67 rfl)
theorem law_end [Tbs] (KX : K.In h) (G : h.Ns mainGlobals mg) (c : SaysD hfa hfn K) (TB : LamX.TabB base mg (cT K ("worked", none)).1 (cT K ("worked", none)).2) (hT : Tbs.T = [((cT K ("worked", none)).2, lamQ)]) (F_law : Fun K "law" "law" s_law (ga K "law") fd) :
    FnOk P w K mg base CX0 13 (ga K "law") fd ["script"] (Pure (R_law K)) := by
  have T := txt_of KX G c
  obtain ⟨fd__law_deck, D__law_deck⟩ := c.def_ 52 (d := hd__law_deck) rfl
  have F__law_deck : Fun K "_law_deck" "_law_deck" s__law_deck (ga K "_law_deck") fd__law_deck := fun_of D__law_deck
  have o__law_deck := ok_law_deck (P := P) (w := w) (base := base) F__law_deck T
  have gf__law_deck : Gf P w K mg base 1 "_law_deck" ["script"] [] (Pure (R_lawDeck K)) := ⟨_, _, _, o__law_deck, glo_ok KX G (c.fact 120 rfl), F__law_deck.kp, F__law_deck.binds (fun _ _ _ _ _ _ us hl => match us, hl with | [_], _ => rfl), .nil⟩
  obtain ⟨fd__law_of, D__law_of⟩ := c.def_ 53 (d := hd__law_of) rfl
  have F__law_of : Fun K "_law_of" "_law_of" s__law_of (ga K "_law_of") fd__law_of := fun_of D__law_of
  have o__law_of := ok_law_of (P := P) (w := w) (base := base) F__law_of T
  have gf__law_of : Gf P w K mg base 1 "_law_of" ["deck", "many"] [] (Pure R_lawOf) := ⟨_, _, _, o__law_of, glo_ok KX G (c.fact 121 rfl), F__law_of.kp, F__law_of.binds (fun _ _ _ _ _ _ us hl => match us, hl with | [_, _], _ => rfl), .nil⟩
  obtain ⟨fd__law_called, D__law_called⟩ := c.def_ 54 (d := hd__law_called) rfl
  have F__law_called : Fun K "_law_called" "_law_called" s__law_called (ga K "_law_called") fd__law_called := fun_of D__law_called
  have o__law_called := ok_law_called (P := P) (w := w) (base := base) F__law_called T gf__law_of
  have gf__law_called : Gf P w K mg base 2 "_law_called" ["deck", "many"] [] (Pure (R_lawCalled K)) := ⟨_, _, _, o__law_called, glo_ok KX G (c.fact 122 rfl), F__law_called.kp, F__law_called.binds (fun _ _ _ _ _ _ us hl => match us, hl with | [_, _], _ => rfl), .nil⟩
  obtain ⟨fd__law_one, D__law_one⟩ := c.def_ 59 (d := hd__law_one) rfl
  have F__law_one : Fun K "_law_one" "_law_one" s__law_one (ga K "_law_one") fd__law_one := fun_of D__law_one
  have o__law_one := ok_law_one (P := P) (w := w) (base := base) F__law_one T gf__law_of
  have gf__law_one : Gf P w K mg base 2 "_law_one" ["deck", "name"] [] (Pure (R_lawOne K)) := ⟨_, _, _, o__law_one, glo_ok KX G (c.fact 127 rfl), F__law_one.kp, F__law_one.binds (fun _ _ _ _ _ _ us hl => match us, hl with | [_, _], _ => rfl), .nil⟩
  obtain ⟨fd_is_whole, D_is_whole⟩ := c.def_ 42 (d := hd_is_whole) rfl
  have F_is_whole : FunD K "is_whole" "is_whole" (defArgs s_is_whole) (defBody s_is_whole) (defScope s_is_whole) [] [("least", .int 0)] (ga K "is_whole") fd_is_whole := D_is_whole
  have o_is_whole := ok_is_whole (P := P) (w := w) (base := base) F_is_whole T
  obtain ⟨dgf_is_whole, vgf_is_whole, bgf_is_whole⟩ := FunD.binds0 (ps := ["thing", "least"]) F_is_whole 1 (fun z => nomatch z) rfl (fun D doc pm an cdv ct us ks l1 l2 => match us, l1, ks, l2 with | [_], _, [_], _ => ⟨_, _, _, _, _, _, rfl, rfl, rfl⟩)
  have gf_is_whole : Gf P w K mg base 1 "is_whole" ["thing", "least"] [.int 0] (Pure R_isWhole) := ⟨_, _, _, o_is_whole, glo_ok KX G (c.fact 110 rfl), F_is_whole.kp, bgf_is_whole, vgf_is_whole⟩
  obtain ⟨_, bgk_is_whole⟩ := FunD.kbinds0 (ps := ["thing", "least"]) F_is_whole 1 ["least"] [] (fun vs _ zs => vs ++ zs) (fun z => nomatch z) (fun _ z => nomatch z) (fun r _ z => vals_app r z) (fun D doc pm an cdv ct us mv ws l1 _ l2 => match us, l1, ws, l2 with | [_], _, [_], _ => rfl)
  have gk_is_whole : Gk P w K mg base 1 "is_whole" ["thing", "least"] 1 ["least"] (fun vs zs => vs ++ zs) (Pure R_isWhole) := ⟨_, _, _, o_is_whole, glo_ok KX G (c.fact 110 rfl), F_is_whole.kp, bgk_is_whole⟩
  obtain ⟨fd_is_name, D_is_name⟩ := c.def_ 41 (d := hd_is_name) rfl
  have F_is_name : Fun K "is_name" "is_name" s_is_name (ga K "is_name") fd_is_name := fun_of D_is_name
  have o_is_name := ok_is_name (P := P) (w := w) (base := base) F_is_name T
  have gf_is_name : Gf P w K mg base 1 "is_name" ["thing"] [] (Pure R_isName) := ⟨_, _, _, o_is_name, glo_ok KX G (c.fact 109 rfl), F_is_name.kp, F_is_name.binds (fun _ _ _ _ _ _ us hl => match us, hl with | [_], _ => rfl), .nil⟩
  obtain ⟨fd_is_section, D_is_section⟩ := c.def_ 43 (d := hd_is_section) rfl
  have F_is_section : Fun K "is_section" "is_section" s_is_section (ga K "is_section") fd_is_section := fun_of D_is_section
  have o_is_section := ok_is_section (P := P) (w := w) (base := base) F_is_section T gf_is_whole gk_is_whole gf_is_name
  have gf_is_section : Gf P w K mg base 2 "is_section" ["thing", "most"] [] (Pure (R_isSection K)) := ⟨_, _, _, o_is_section, glo_ok KX G (c.fact 111 rfl), F_is_section.kp, F_is_section.binds (fun _ _ _ _ _ _ us hl => match us, hl with | [_, _], _ => rfl), .nil⟩
  obtain ⟨fd_lies_within, D_lies_within⟩ := c.def_ 44 (d := hd_lies_within) rfl
  have F_lies_within : Fun K "lies_within" "lies_within" s_lies_within (ga K "lies_within") fd_lies_within := fun_of D_lies_within
  have o_lies_within := ok_lies_within (P := P) (w := w) (base := base) F_lies_within T
  have gf_lies_within : Gf P w K mg base 1 "lies_within" ["one", "other"] [] (Pure (R_two K liesIn)) := ⟨_, _, _, o_lies_within, glo_ok KX G (c.fact 112 rfl), F_lies_within.kp, F_lies_within.binds (fun _ _ _ _ _ _ us hl => match us, hl with | [_, _], _ => rfl), .nil⟩
  obtain ⟨fd_go_together, D_go_together⟩ := c.def_ 45 (d := hd_go_together) rfl
  have F_go_together : Fun K "go_together" "go_together" s_go_together (ga K "go_together") fd_go_together := fun_of D_go_together
  have o_go_together := ok_go_together (P := P) (w := w) (base := base) F_go_together T gf_lies_within
  have gf_go_together : Gf P w K mg base 2 "go_together" ["one", "other"] [] (Pure (R_two K goTog)) := ⟨_, _, _, o_go_together, glo_ok KX G (c.fact 113 rfl), F_go_together.kp, F_go_together.binds (fun _ _ _ _ _ _ us hl => match us, hl with | [_, _], _ => rfl), .nil⟩
  obtain ⟨fd_are_sections, D_are_sections⟩ := c.def_ 46 (d := hd_are_sections) rfl
  have F_are_sections : Fun K "are_sections" "are_sections" s_are_sections (ga K "are_sections") fd_are_sections := fun_of D_are_sections
  have o_are_sections := ok_are_sections (P := P) (w := w) (base := base) F_are_sections T gf_is_section gf_go_together
  have gf_are_sections : Gf P w K mg base 3 "are_sections" ["thing", "most"] [] (Pure (R_areSections K)) := ⟨_, _, _, o_are_sections, glo_ok KX G (c.fact 114 rfl), F_are_sections.kp, F_are_sections.binds (fun _ _ _ _ _ _ us hl => match us, hl with | [_, _], _ => rfl), .nil⟩
  obtain ⟨fd_bad_part, D_bad_part⟩ := c.def_ 48 (d := hd_bad_part) rfl
  have F_bad_part : Fun K "bad_part" "bad_part" s_bad_part (ga K "bad_part") fd_bad_part := fun_of D_bad_part
  have o_bad_part := ok_bad_part (P := P) (w := w) (base := base) F_bad_part T gf_is_whole gk_is_whole gf_is_name gf_are_sections
  have gf_bad_part : Gf P w K mg base 4 "bad_part" ["name", "rank", "gap", "most", "due", "wait", "sections"] [] (Pure (R_badPart K)) := ⟨_, _, _, o_bad_part, glo_ok KX G (c.fact 116 rfl), F_bad_part.kp, F_bad_part.binds (fun _ _ _ _ _ _ us hl => match us, hl with | [_, _, _, _, _, _, _], _ => rfl), .nil⟩
  obtain ⟨fd_Task_init, D_Task_init⟩ := c.def_ 49 (d := hd_Task_init) rfl
  have F_Task_init : FunD K "__init__" "Task.__init__" (defArgs s_Task_init) (defBody s_Task_init) (defScope s_Task_init) [] [("due", .non), ("wait", .int 0), ("sections", .ref (kwdAt ("Task", some "__init__") "sections" K))] (ma K (ga K "Task") "__init__") fd_Task_init := D_Task_init
  have o_Task_init := ok_Task_init (P := P) (w := w) (base := base) F_Task_init T gf_bad_part
  obtain ⟨_, bgck_Task_init⟩ := FunD.kbinds0 (ps := ["self", "name", "rank", "gap", "most", "due", "wait", "sections"]) F_Task_init 2 ["rank", "gap", "most", "due", "wait", "sections"] [] (fun vs _ zs => vs ++ zs) (fun z => nomatch z) (fun _ z => nomatch z) (fun r _ z => vals_app r z) (fun D doc pm an cdv ct us mv ws l1 _ l2 => match us, l1, ws, l2 with | [_, _], _, [_, _, _, _, _, _], _ => rfl)
  have gck_Task_init : Gck P w K mg base 5 "Task" (csOf K).Task ["self", "name", "rank", "gap", "most", "due", "wait", "sections"] 1 ["rank", "gap", "most", "due", "wait", "sections"] (fun vs zs => vs ++ zs) (Ctor (csOf K).Task (R_Task K)) := ⟨_, _, _, o_Task_init, T.m_Task, mkr_ok (c.fact 117 rfl), bgck_Task_init⟩
  obtain ⟨fd__law_task, D__law_task⟩ := c.def_ 55 (d := hd__law_task) rfl
  have F__law_task : Fun K "_law_task" "_law_task" s__law_task (ga K "_law_task") fd__law_task := fun_of D__law_task
  have o__law_task := ok_law_task (P := P) (w := w) (base := base) F__law_task T gck_Task_init
  have gf__law_task : Gf P w K mg base 7 "_law_task" ["one"] [] (Pure (R_lawTask K (csOf K))) := ⟨_, _, _, o__law_task, glo_ok KX G (c.fact 123 rfl), F__law_task.kp, F__law_task.binds (fun _ _ _ _ _ _ us hl => match us, hl with | [_], _ => rfl), .nil⟩
  obtain ⟨fd_Plan_init, D_Plan_init⟩ := c.def_ 32 (d := hd_Plan_init) rfl
  have F_Plan_init : FunD K "__init__" "Plan.__init__" (defArgs s_Plan_init) (defBody s_Plan_init) (defScope s_Plan_init) [.ref (dflAt ("Plan", some "__init__") 0 K)] [] (ma K (ga K "Plan") "__init__") fd_Plan_init := D_Plan_init
  have o_Plan_init := ok_Plan_init (P := P) (w := w) (base := base) F_Plan_init T
  obtain ⟨dgc_Plan_init, vgc_Plan_init, bgc_Plan_init⟩ := FunD.binds1 (ps := ["self", "tasks"]) F_Plan_init 2 1 (fun z => nomatch z) rfl (fun T kV doc pm an cdv ct us its l1 l2 => match us, l1, its, l2 with | [_, _], _, [_], _ => ⟨_, rfl, rfl⟩)
  have gc_Plan_init : Gc P w K mg base 1 "Plan" (csOf K).Plan ["self", "tasks"] [] (Ctor (csOf K).Plan (R_Plan K (csOf K))) := ⟨_, _, _, o_Plan_init, T.m_Plan, mkr_ok (c.fact 100 rfl), bgc_Plan_init, vgc_Plan_init⟩
  obtain ⟨fd__law_plan, D__law_plan⟩ := c.def_ 56 (d := hd__law_plan) rfl
  have F__law_plan : Fun K "_law_plan" "_law_plan" s__law_plan (ga K "_law_plan") fd__law_plan := fun_of D__law_plan
  have o__law_plan := ok_law_plan (P := P) (w := w) (base := base) F__law_plan T gf__law_task gc_Plan_init
  have gf__law_plan : Gf P w K mg base 8 "_law_plan" ["tasks"] [] (Pure (R_lawPlan K (csOf K))) := ⟨_, _, _, o__law_plan, glo_ok KX G (c.fact 124 rfl), F__law_plan.kp, F__law_plan.binds (fun _ _ _ _ _ _ us hl => match us, hl with | [_], _ => rfl), .nil⟩
  obtain ⟨fd_House_init, D_House_init⟩ := c.def_ 22 (d := hd_House_init) rfl
  have F_House_init : Fun K "__init__" "House.__init__" s_House_init (ma K (ga K "House") "__init__") fd_House_init := fun_of D_House_init
  have o_House_init := ok_House_init (P := P) (w := w) (base := base) F_House_init T
  have gc_House_init : Gc P w K mg base 1 "House" (csOf K).House ["self", "plans", "first"] [] (spHouse K (csOf K)) := ⟨_, _, _, o_House_init, T.m_House, mkr_ok (c.fact 90 rfl), F_House_init.binds (fun _ _ _ _ _ _ us hl => match us, hl with | [_, _, _], _ => rfl), .nil⟩
  obtain ⟨fd__law_house, D__law_house⟩ := c.def_ 57 (d := hd__law_house) rfl
  have F__law_house : Fun K "_law_house" "_law_house" s__law_house (ga K "_law_house") fd__law_house := fun_of D__law_house
  have o__law_house := ok_law_house (P := P) (w := w) (base := base) F__law_house T gf__law_plan gc_House_init
  have gf__law_house : Gf P w K mg base 9 "_law_house" ["plans", "first"] [] (spLawHouse K (csOf K)) := ⟨_, _, _, o__law_house, glo_ok KX G (c.fact 125 rfl), F__law_house.kp, F__law_house.binds (fun _ _ _ _ _ _ us hl => match us, hl with | [_, _], _ => rfl), .nil⟩
  obtain ⟨fd__law_one_after_other, D__law_one_after_other⟩ := c.def_ 58 (d := hd__law_one_after_other) rfl
  have F__law_one_after_other : Fun K "_law_one_after_other" "_law_one_after_other" s__law_one_after_other (ga K "_law_one_after_other") fd__law_one_after_other := fun_of D__law_one_after_other
  have o__law_one_after_other := ok_law_after (P := P) (w := w) (base := base) F__law_one_after_other T
  have gf__law_one_after_other : Gf P w K mg base 1 "_law_one_after_other" ["one", "at", "rows", "free"] [] (Pure (R_lawAfter K)) := ⟨_, _, _, o__law_one_after_other, glo_ok KX G (c.fact 126 rfl), F__law_one_after_other.kp, F__law_one_after_other.binds (fun _ _ _ _ _ _ us hl => match us, hl with | [_, _, _, _], _ => rfl), .nil⟩
  obtain ⟨fd__law_gone_on, D__law_gone_on⟩ := c.def_ 60 (d := hd__law_gone_on) rfl
  have F__law_gone_on : Fun K "_law_gone_on" "_law_gone_on" s__law_gone_on (ga K "_law_gone_on") fd__law_gone_on := fun_of D__law_gone_on
  have o__law_gone_on := ok_law_gone (P := P) (w := w) (base := base) F__law_gone_on T gf__law_one_after_other
  have gf__law_gone_on : Gf P w K mg base 2 "_law_gone_on" ["one", "at", "rows", "begun", "asked"] [] (Pure (R_lawGone K)) := ⟨_, _, _, o__law_gone_on, glo_ok KX G (c.fact 128 rfl), F__law_gone_on.kp, F__law_gone_on.binds (fun _ _ _ _ _ _ us hl => match us, hl with | [_, _, _, _, _], _ => rfl), .nil⟩
  obtain ⟨fd_House_need_hour, D_House_need_hour⟩ := c.def_ 24 (d := hd_House_need_hour) rfl
  have F_House_need_hour : Fun K "need_hour" "House.need_hour" s_House_need_hour (ma K (ga K "House") "need_hour") fd_House_need_hour := fun_of D_House_need_hour
  have o_House_need_hour := ok_House_need_hour (P := P) (w := w) (base := base) F_House_need_hour T
  have gm_House_need_hour : Gm P w K mg base 1 (csOf K).House "need_hour" ["self", "hour"] [] (Pure (R_needHour K (csOf K))) := ⟨_, _, _, o_House_need_hour, meth_ok (c.fact 92 rfl), F_House_need_hour.binds (fun _ _ _ _ _ _ us hl => match us, hl with | [_, _], _ => rfl), .nil⟩
  obtain ⟨fd_Plan_tasks, D_Plan_tasks⟩ := c.def_ 34 (d := hd_Plan_tasks) rfl
  have F_Plan_tasks : Fun K "tasks" "Plan.tasks" s_Plan_tasks (ma K (ga K "Plan") "tasks") fd_Plan_tasks := fun_of D_Plan_tasks
  have o_Plan_tasks := ok_Plan_tasks (P := P) (w := w) (base := base) F_Plan_tasks T
  have gm_Plan_tasks : Gm P w K mg base 1 (csOf K).Plan "tasks" ["self"] [] (Pure (R_planTasks K (csOf K))) := ⟨_, _, _, o_Plan_tasks, meth_ok (c.fact 102 rfl), F_Plan_tasks.binds (fun _ _ _ _ _ _ us hl => match us, hl with | [_], _ => rfl), .nil⟩
  obtain ⟨fd_House_wish, D_House_wish⟩ := c.def_ 25 (d := hd_House_wish) rfl
  have F_House_wish : Fun K "wish" "House.wish" s_House_wish (ma K (ga K "House") "wish") fd_House_wish := fun_of D_House_wish
  have o_House_wish := ok_House_wish (P := P) (w := w) (base := base) F_House_wish T gm_House_need_hour gm_Plan_tasks
  have gm_House_wish : Gm P w K mg base 2 (csOf K).House "wish" ["self", "hour", "task", "work"] [] (spWish K (csOf K)) := ⟨_, _, _, o_House_wish, meth_ok (c.fact 93 rfl), F_House_wish.binds (fun _ _ _ _ _ _ us hl => match us, hl with | [_, _, _, _], _ => rfl), .nil⟩
  obtain ⟨fd_House_change, D_House_change⟩ := c.def_ 26 (d := hd_House_change) rfl
  have F_House_change : Fun K "change" "House.change" s_House_change (ma K (ga K "House") "change") fd_House_change := fun_of D_House_change
  have o_House_change := ok_House_change (P := P) (w := w) (base := base) F_House_change T gm_House_need_hour
  have gm_House_change : Gm P w K mg base 2 (csOf K).House "change" ["self", "hour", "name"] [] (spChange K (csOf K)) := ⟨_, _, _, o_House_change, meth_ok (c.fact 94 rfl), F_House_change.binds (fun _ _ _ _ _ _ us hl => match us, hl with | [_, _, _], _ => rfl), .nil⟩
  obtain ⟨fd_House_run, D_House_run⟩ := c.def_ 27 (d := hd_House_run) rfl
  have F_House_run : Fun K "run" "House.run" s_House_run (ma K (ga K "House") "run") fd_House_run := fun_of D_House_run
  have o_House_run := ok_House_run (P := P) (w := w) (base := base) F_House_run T gm_House_need_hour
  have gm_House_run : Gm P w K mg base 2 (csOf K).House "run" ["self", "hour"] [] (spRun K (csOf K)) := ⟨_, _, _, o_House_run, meth_ok (c.fact 95 rfl), F_House_run.binds (fun _ _ _ _ _ _ us hl => match us, hl with | [_, _], _ => rfl), .nil⟩
  obtain ⟨fd_House_now, D_House_now⟩ := c.def_ 23 (d := hd_House_now) rfl
  have F_House_now : Fun K "now" "House.now" s_House_now (ma K (ga K "House") "now") fd_House_now := fun_of D_House_now
  have o_House_now := ok_House_now (P := P) (w := w) (base := base) F_House_now T
  have gm_House_now : Gm P w K mg base 1 (csOf K).House "now" ["self"] [] (Pure (R_now K (csOf K))) := ⟨_, _, _, o_House_now, meth_ok (c.fact 91 rfl), F_House_now.binds (fun _ _ _ _ _ _ us hl => match us, hl with | [_], _ => rfl), .nil⟩
  obtain ⟨fd_Era_init, D_Era_init⟩ := c.def_ 15 (d := hd_Era_init) rfl
  have F_Era_init : Fun K "__init__" "Era.__init__" s_Era_init (ma K (ga K "Era") "__init__") fd_Era_init := fun_of D_Era_init
  have o_Era_init := ok_Era_init (P := P) (w := w) (base := base) F_Era_init T gm_Plan_tasks
  have gc_Era_init : Gc P w K mg base 2 "Era" (csOf K).Era ["self", "plan", "wishes"] [] (Ctor (csOf K).Era (R_Era K (csOf K))) := ⟨_, _, _, o_Era_init, T.m_Era, mkr_ok (c.fact 83 rfl), F_Era_init.binds (fun _ _ _ _ _ _ us hl => match us, hl with | [_, _, _], _ => rfl), .nil⟩
  obtain ⟨fd_need_wish, D_need_wish⟩ := c.def_ 0 (d := hd_need_wish) rfl
  have F_need_wish : Fun K "need_wish" "need_wish" s_need_wish (ga K "need_wish") fd_need_wish := fun_of D_need_wish
  have o_need_wish := ok_need_wish (P := P) (w := w) (base := base) F_need_wish T gm_Plan_tasks
  have gf_need_wish : Gf P w K mg base 2 "need_wish" ["plan", "task", "work"] [] (Pure (R_needWish K (csOf K))) := ⟨_, _, _, o_need_wish, glo_ok KX G (c.fact 68 rfl), F_need_wish.kp, F_need_wish.binds (fun _ _ _ _ _ _ us hl => match us, hl with | [_, _, _], _ => rfl), .nil⟩
  obtain ⟨fd_jobs_of, D_jobs_of⟩ := c.def_ 1 (d := hd_jobs_of) rfl
  have F_jobs_of : Fun K "jobs_of" "jobs_of" s_jobs_of (ga K "jobs_of") fd_jobs_of := fun_of D_jobs_of
  have o_jobs_of := ok_jobs_of (P := P) (w := w) (base := base) F_jobs_of T
  have gf_jobs_of : Gf P w K mg base 1 "jobs_of" ["task", "rows", "gate"] [] (Pure (R_jobsOf K (csOf K))) := ⟨_, _, _, o_jobs_of, glo_ok KX G (c.fact 69 rfl), F_jobs_of.kp, F_jobs_of.binds (fun _ _ _ _ _ _ us hl => match us, hl with | [_, _, _], _ => rfl), .nil⟩
  obtain ⟨fd_let_in, D_let_in⟩ := c.def_ 2 (d := hd_let_in) rfl
  have F_let_in : FunD K "let_in" "let_in" (defArgs s_let_in) (defBody s_let_in) (defScope s_let_in) [] [("gate", .bl true)] (ga K "let_in") fd_let_in := D_let_in
  have o_let_in := ok_let_in (P := P) (w := w) (base := base) F_let_in T gm_Plan_tasks gf_need_wish gf_jobs_of
  obtain ⟨dgf_let_in, vgf_let_in, bgf_let_in⟩ := FunD.binds0 (ps := ["plan", "wishes", "gate"]) F_let_in 2 (fun z => nomatch z) rfl (fun D doc pm an cdv ct us ks l1 l2 => match us, l1, ks, l2 with | [_, _], _, [_], _ => ⟨_, _, _, _, _, _, rfl, rfl, rfl⟩)
  have gf_let_in : Gf P w K mg base 3 "let_in" ["plan", "wishes", "gate"] [.bl true] (Pure (R_letIn K (csOf K))) := ⟨_, _, _, o_let_in, glo_ok KX G (c.fact 70 rfl), F_let_in.kp, bgf_let_in, vgf_let_in⟩
  obtain ⟨fd_Era_let, D_Era_let⟩ := c.def_ 16 (d := hd_Era_let) rfl
  have F_Era_let : Fun K "let" "Era.let" s_Era_let (ma K (ga K "Era") "let") fd_Era_let := fun_of D_Era_let
  have o_Era_let := ok_Era_let (P := P) (w := w) (base := base) F_Era_let T zip_rule gm_Plan_tasks gf_let_in
  have gm_Era_let : Gm P w K mg base 4 (csOf K).Era "let" ["self", "until"] [] (Pure (R_eraLet K (csOf K))) := ⟨_, _, _, o_Era_let, meth_ok (c.fact 84 rfl), F_Era_let.binds (fun _ _ _ _ _ _ us hl => match us, hl with | [_, _], _ => rfl), .nil⟩
  obtain ⟨fd_Plan_locks, D_Plan_locks⟩ := c.def_ 36 (d := hd_Plan_locks) rfl
  have F_Plan_locks : Fun K "locks" "Plan.locks" s_Plan_locks (ma K (ga K "Plan") "locks") fd_Plan_locks := fun_of D_Plan_locks
  have o_Plan_locks := ok_Plan_locks (P := P) (w := w) (base := base) F_Plan_locks T
  have gm_Plan_locks : Gm P w K mg base 1 (csOf K).Plan "locks" ["self"] [] (Pure (R_planLocks K (csOf K))) := ⟨_, _, _, o_Plan_locks, meth_ok (c.fact 104 rfl), F_Plan_locks.binds (fun _ _ _ _ _ _ us hl => match us, hl with | [_], _ => rfl), .nil⟩
  obtain ⟨fd_Plan_task, D_Plan_task⟩ := c.def_ 35 (d := hd_Plan_task) rfl
  have F_Plan_task : Fun K "task" "Plan.task" s_Plan_task (ma K (ga K "Plan") "task") fd_Plan_task := fun_of D_Plan_task
  have o_Plan_task := ok_Plan_task (P := P) (w := w) (base := base) F_Plan_task T
  have gm_Plan_task : Gm P w K mg base 1 (csOf K).Plan "task" ["self", "name"] [] (Pure (R_planTask K (csOf K))) := ⟨_, _, _, o_Plan_task, meth_ok (c.fact 103 rfl), F_Plan_task.binds (fun _ _ _ _ _ _ us hl => match us, hl with | [_, _], _ => rfl), .nil⟩
  obtain ⟨fd_Job_init, D_Job_init⟩ := c.def_ 3 (d := hd_Job_init) rfl
  have F_Job_init : Fun K "__init__" "Job.__init__" s_Job_init (ma K (ga K "Job") "__init__") fd_Job_init := fun_of D_Job_init
  have o_Job_init := ok_Job_init (P := P) (w := w) (base := base) F_Job_init T
  have gc_Job_init : Gc P w K mg base 1 "Job" (csOf K).Job ["self", "task", "ceilings", "row"] [] (CtorC (csOf K).Job (R_Job K (csOf K))) := ⟨_, _, _, o_Job_init, T.m_Job, mkr_ok (c.fact 71 rfl), F_Job_init.binds (fun _ _ _ _ _ _ us hl => match us, hl with | [_, _, _, _], _ => rfl), .nil⟩
  obtain ⟨fd_jobs_in, D_jobs_in⟩ := c.def_ 9 (d := hd_jobs_in) rfl
  have F_jobs_in : Fun K "jobs_in" "jobs_in" s_jobs_in (ga K "jobs_in") fd_jobs_in := fun_of D_jobs_in
  have o_jobs_in := ok_jobs_in (P := P) (w := w) (base := base) F_jobs_in T gm_Plan_locks gm_Plan_task gc_Job_init
  have gf_jobs_in : Gf P w K mg base 3 "jobs_in" ["plan", "rows"] [] (spJobsIn K (csOf K)) := ⟨_, _, _, o_jobs_in, glo_ok KX G (c.fact 77 rfl), F_jobs_in.kp, F_jobs_in.binds (fun _ _ _ _ _ _ us hl => match us, hl with | [_, _], _ => rfl), .nil⟩
  obtain ⟨fd_next_release, D_next_release⟩ := c.def_ 10 (d := hd_next_release) rfl
  have F_next_release : Fun K "next_release" "next_release" s_next_release (ga K "next_release") fd_next_release := fun_of D_next_release
  have o_next_release := ok_next_release (P := P) (w := w) (base := base) F_next_release T
  have gf_next_release : Gf P w K mg base 1 "next_release" ["waiting", "hour"] [] (Pure (R_nextRelease K (csOf K))) := ⟨_, _, _, o_next_release, glo_ok KX G (c.fact 78 rfl), F_next_release.kp, F_next_release.binds (fun _ _ _ _ _ _ us hl => match us, hl with | [_, _], _ => rfl), .nil⟩
  obtain ⟨fd_added, D_added⟩ := c.def_ 11 (d := hd_added) rfl
  have F_added : Fun K "added" "added" s_added (ga K "added") fd_added := fun_of D_added
  have o_added := ok_added (P := P) (w := w) (base := base) F_added T
  have gf_added : Gf P w K mg base 1 "added" ["trace", "start", "stop", "job"] [] (spAdded K (csOf K)) := ⟨_, _, _, o_added, glo_ok KX G (c.fact 79 rfl), F_added.kp, F_added.binds (fun _ _ _ _ _ _ us hl => match us, hl with | [_, _, _, _], _ => rfl), .nil⟩
  obtain ⟨fd_Job_sections_now, D_Job_sections_now⟩ := c.def_ 4 (d := hd_Job_sections_now) rfl
  have F_Job_sections_now : Fun K "sections_now" "Job.sections_now" s_Job_sections_now (ma K (ga K "Job") "sections_now") fd_Job_sections_now := fun_of D_Job_sections_now
  have o_Job_sections_now := ok_Job_sections_now (P := P) (w := w) (base := base) F_Job_sections_now T
  have gm_Job_sections_now : Gm P w K mg base 1 (csOf K).Job "sections_now" ["self"] [] (Pure (R_jobSecs K (csOf K))) := ⟨_, _, _, o_Job_sections_now, meth_ok (c.fact 72 rfl), F_Job_sections_now.binds (fun _ _ _ _ _ _ us hl => match us, hl with | [_], _ => rfl), .nil⟩
  obtain ⟨fd_Job_urgency, D_Job_urgency⟩ := c.def_ 5 (d := hd_Job_urgency) rfl
  have F_Job_urgency : Fun K "urgency" "Job.urgency" s_Job_urgency (ma K (ga K "Job") "urgency") fd_Job_urgency := fun_of D_Job_urgency
  have o_Job_urgency := ok_Job_urgency (P := P) (w := w) (base := base) F_Job_urgency T gm_Job_sections_now
  have gm_Job_urgency : Gm P w K mg base 2 (csOf K).Job "urgency" ["self"] [] (Pure (R_urgency K (csOf K))) := ⟨_, _, _, o_Job_urgency, meth_ok (c.fact 73 rfl), F_Job_urgency.binds (fun _ _ _ _ _ _ us hl => match us, hl with | [_], _ => rfl), .nil⟩
  obtain ⟨fd_Job_goal, D_Job_goal⟩ := c.def_ 6 (d := hd_Job_goal) rfl
  have F_Job_goal : Fun K "goal" "Job.goal" s_Job_goal (ma K (ga K "Job") "goal") fd_Job_goal := fun_of D_Job_goal
  have o_Job_goal := ok_Job_goal (P := P) (w := w) (base := base) F_Job_goal T
  have gm_Job_goal : Gm P w K mg base 1 (csOf K).Job "goal" ["self", "guard"] [] (Pure (R_goal K (csOf K))) := ⟨_, _, _, o_Job_goal, meth_ok (c.fact 74 rfl), F_Job_goal.binds (fun _ _ _ _ _ _ us hl => match us, hl with | [_, _], _ => rfl), .nil⟩
  obtain ⟨fd_Job_turns, D_Job_turns⟩ := c.def_ 8 (d := hd_Job_turns) rfl
  have F_Job_turns : Fun K "turns" "Job.turns" s_Job_turns (ma K (ga K "Job") "turns") fd_Job_turns := fun_of D_Job_turns
  have o_Job_turns := ok_Job_turns (P := P) (w := w) (base := base) F_Job_turns T gm_Job_goal
  have gm_Job_turns : Gm P w K mg base 2 (csOf K).Job "turns" ["self", "guard"] [] (Pure (R_turns K (csOf K))) := ⟨_, _, _, o_Job_turns, meth_ok (c.fact 76 rfl), F_Job_turns.binds (fun _ _ _ _ _ _ us hl => match us, hl with | [_, _], _ => rfl), .nil⟩
  obtain ⟨fd_worked, D_worked⟩ := c.def_ 12 (d := hd_worked) rfl
  have F_worked : Fun K "worked" "worked" s_worked (ga K "worked") fd_worked := fun_of D_worked
  have o_worked := ok_worked (P := P) (w := w) (base := base) F_worked T (code_of (p := ("worked", none)) D_worked) TB (by rw [hT]; exact List.mem_cons_self) (fun p hp _ => by rw [hT] at hp; rw [List.mem_singleton.mp hp]) gf_next_release gf_added gm_Job_urgency gm_Job_turns gm_Job_goal
  have gf_worked : Gf P w K mg base 5 "worked" ["jobs", "until", "guard"] [] (spWorked K (csOf K)) := ⟨_, _, _, o_worked, glo_ok KX G (c.fact 80 rfl), F_worked.kp, F_worked.binds (fun _ _ _ _ _ _ us hl => match us, hl with | [_, _, _], _ => rfl), .nil⟩
  obtain ⟨fd_told_of, D_told_of⟩ := c.def_ 13 (d := hd_told_of) rfl
  have F_told_of : Fun K "told_of" "told_of" s_told_of (ga K "told_of") fd_told_of := fun_of D_told_of
  have o_told_of := ok_told_of (P := P) (w := w) (base := base) F_told_of T
  have gf_told_of : Gf P w K mg base 1 "told_of" ["job"] [] (Pure (R_told K (csOf K))) := ⟨_, _, _, o_told_of, glo_ok KX G (c.fact 81 rfl), F_told_of.kp, F_told_of.binds (fun _ _ _ _ _ _ us hl => match us, hl with | [_], _ => rfl), .nil⟩
  obtain ⟨fd_played, D_played⟩ := c.def_ 14 (d := hd_played) rfl
  have F_played : FunD K "played" "played" (defArgs s_played) (defBody s_played) (defScope s_played) [] [("guard", .bl true)] (ga K "played") fd_played := D_played
  have o_played := ok_played (P := P) (w := w) (base := base) F_played T gf_jobs_in gf_worked gf_told_of
  obtain ⟨dgf_played, vgf_played, bgf_played⟩ := FunD.binds0 (ps := ["plan", "rows", "until", "guard"]) F_played 3 (fun z => nomatch z) rfl (fun D doc pm an cdv ct us ks l1 l2 => match us, l1, ks, l2 with | [_, _, _], _, [_], _ => ⟨_, _, _, _, _, _, rfl, rfl, rfl⟩)
  have gf_played : Gf P w K mg base 6 "played" ["plan", "rows", "until", "guard"] [.bl true] (Pure (R_played K (csOf K))) := ⟨_, _, _, o_played, glo_ok KX G (c.fact 82 rfl), F_played.kp, bgf_played, vgf_played⟩
  obtain ⟨fd_Era_unknown, D_Era_unknown⟩ := c.def_ 17 (d := hd_Era_unknown) rfl
  have F_Era_unknown : Fun K "unknown" "Era.unknown" s_Era_unknown (ma K (ga K "Era") "unknown") fd_Era_unknown := fun_of D_Era_unknown
  have o_Era_unknown := ok_Era_unknown (P := P) (w := w) (base := base) F_Era_unknown T
  have gm_Era_unknown : Gm P w K mg base 1 (csOf K).Era "unknown" ["self", "until"] [] (Pure (R_eraUnknown K (csOf K))) := ⟨_, _, _, o_Era_unknown, meth_ok (c.fact 85 rfl), F_Era_unknown.binds (fun _ _ _ _ _ _ us hl => match us, hl with | [_, _], _ => rfl), .nil⟩
  obtain ⟨fd_Story_note, D_Story_note⟩ := c.def_ 20 (d := hd_Story_note) rfl
  have F_Story_note : Fun K "note" "Story.note" s_Story_note (ma K (ga K "Story") "note") fd_Story_note := fun_of D_Story_note
  have o_Story_note := ok_Story_note (P := P) (w := w) (base := base) F_Story_note T gf_played gm_Era_unknown
  have gm_Story_note : Gm P w K mg base 7 (csOf K).Story "note" ["self", "era", "rows", "until"] [] (spNote K (csOf K)) := ⟨_, _, _, o_Story_note, meth_ok (c.fact 88 rfl), F_Story_note.binds (fun _ _ _ _ _ _ us hl => match us, hl with | [_, _, _, _], _ => rfl), .nil⟩
  obtain ⟨fd_Story_changed, D_Story_changed⟩ := c.def_ 21 (d := hd_Story_changed) rfl
  have F_Story_changed : Fun K "changed" "Story.changed" s_Story_changed (ma K (ga K "Story") "changed") fd_Story_changed := fun_of D_Story_changed
  have o_Story_changed := ok_Story_changed (P := P) (w := w) (base := base) F_Story_changed T gm_Era_let gm_Story_note
  have gm_Story_changed : Gm P w K mg base 8 (csOf K).Story "changed" ["self", "era", "hours"] [] (spChanged K (csOf K)) := ⟨_, _, _, o_Story_changed, meth_ok (c.fact 89 rfl), F_Story_changed.binds (fun _ _ _ _ _ _ us hl => match us, hl with | [_, _, _], _ => rfl), .nil⟩
  obtain ⟨fd_Story_walk, D_Story_walk⟩ := c.def_ 19 (d := hd_Story_walk) rfl
  have F_Story_walk : Fun K "walk" "Story.walk" s_Story_walk (ma K (ga K "Story") "walk") fd_Story_walk := fun_of D_Story_walk
  have o_Story_walk := ok_Story_walk (P := P) (w := w) (base := base) F_Story_walk T gc_Era_init gm_Era_let gm_Story_note gm_Story_changed
  have gm_Story_walk : Gm P w K mg base 9 (csOf K).Story "walk" ["self", "name", "wishes"] [] (spWalk K (csOf K)) := ⟨_, _, _, o_Story_walk, meth_ok (c.fact 87 rfl), F_Story_walk.binds (fun _ _ _ _ _ _ us hl => match us, hl with | [_, _, _], _ => rfl), .nil⟩
  obtain ⟨fd_Story_init, D_Story_init⟩ := c.def_ 18 (d := hd_Story_init) rfl
  have F_Story_init : Fun K "__init__" "Story.__init__" s_Story_init (ma K (ga K "Story") "__init__") fd_Story_init := fun_of D_Story_init
  have o_Story_init := ok_Story_init (P := P) (w := w) (base := base) F_Story_init T gm_House_now gm_Story_walk
  have gc_Story_init : Gc P w K mg base 10 "Story" (csOf K).Story ["self", "house"] [] (Ctor (csOf K).Story (R_Story K (csOf K))) := ⟨_, _, _, o_Story_init, T.m_Story, mkr_ok (c.fact 86 rfl), F_Story_init.binds (fun _ _ _ _ _ _ us hl => match us, hl with | [_, _], _ => rfl), .nil⟩
  obtain ⟨fd_House_jobs, D_House_jobs⟩ := c.def_ 31 (d := hd_House_jobs) rfl
  have F_House_jobs : Fun K "jobs" "House.jobs" s_House_jobs (ma K (ga K "House") "jobs") fd_House_jobs := fun_of D_House_jobs
  have o_House_jobs := ok_House_jobs (P := P) (w := w) (base := base) F_House_jobs T gc_Story_init
  have gm_House_jobs : Gm P w K mg base 12 (csOf K).House "jobs" ["self"] [] (Pure (R_houseOf K (csOf K) (F_jobs K))) := ⟨_, _, _, o_House_jobs, meth_ok (c.fact 99 rfl), F_House_jobs.binds (fun _ _ _ _ _ _ us hl => match us, hl with | [_], _ => rfl), .nil⟩
  obtain ⟨fd_House_changes, D_House_changes⟩ := c.def_ 29 (d := hd_House_changes) rfl
  have F_House_changes : Fun K "changes" "House.changes" s_House_changes (ma K (ga K "House") "changes") fd_House_changes := fun_of D_House_changes
  have o_House_changes := ok_House_changes (P := P) (w := w) (base := base) F_House_changes T gc_Story_init
  have gm_House_changes : Gm P w K mg base 12 (csOf K).House "changes" ["self"] [] (Pure (R_houseOf K (csOf K) (F_changes K))) := ⟨_, _, _, o_House_changes, meth_ok (c.fact 97 rfl), F_House_changes.binds (fun _ _ _ _ _ _ us hl => match us, hl with | [_], _ => rfl), .nil⟩
  obtain ⟨fd_House_dropped, D_House_dropped⟩ := c.def_ 30 (d := hd_House_dropped) rfl
  have F_House_dropped : Fun K "dropped" "House.dropped" s_House_dropped (ma K (ga K "House") "dropped") fd_House_dropped := fun_of D_House_dropped
  have o_House_dropped := ok_House_dropped (P := P) (w := w) (base := base) F_House_dropped T gc_Story_init
  have gm_House_dropped : Gm P w K mg base 12 (csOf K).House "dropped" ["self"] [] (Pure (R_houseOf K (csOf K) (F_dropped K))) := ⟨_, _, _, o_House_dropped, meth_ok (c.fact 98 rfl), F_House_dropped.binds (fun _ _ _ _ _ _ us hl => match us, hl with | [_], _ => rfl), .nil⟩
  have o_law := ok_law (P := P) (w := w) (base := base) F_law T gf__law_deck gf__law_of gf__law_called gf__law_one gf__law_house gf__law_gone_on gm_House_wish gm_House_change gm_House_run gm_House_jobs gm_House_changes gm_House_dropped
  exact o_law
end
end K7

set_option Elab.async false
set_option linter.all false
set_option maxRecDepth 1000000
set_option maxHeartbeats 0
namespace K7
open PySem PySem.Spec PySem.W L2 Pw He
open PyProof.Rows hiding St
/-! ### the law's promise at the head -/
theorem law_at {l : PySem.W.OpenLaw} {w : World} {K : PySem.W.Frag} {mg : Str → Option Value} {fa : Addr} {h : Heap} (KX : K.In h) (c : SaysX hfa hfn [] htf hex w h K) (G : h.Ns mainGlobals mg) (hm : mg ("law" : Str) = some (.ref fa)) : LamX.LawAtS l w K CX0 13 63 "script" mg fa h := by
  obtain ⟨fd, D⟩ := c.t.d.def_ 61 (d := hd_law) rfl
  have F : Fun K "law" "law" s_law (ga K "law") fd := fun_of D
  have e := hm.symm.trans (glo_ok KX G (c.t.d.fact 129 (f := .glo "law") rfl))
  cases e
  have wk : (("worked", none) : Defn) ∈ htf := List.mem_cons_self
  have one : ∀ p, p ∈ [cT K ("worked", none)] → p = cT K ("worked", none) := fun p hp => List.mem_singleton.mp hp
  have b := FunD.bindsA (ps := ["script"]) D fun _ _ _ _ _ _ us hl => match us, hl with | [_], _ => rfl
  letI : Tbs := ⟨[((cT K ("worked", none)).2, lamQ)]⟩
  refine ⟨fd, [cT K ("worked", none)], Pure (R_law K), fun p hp => ?_, fun p hp => ?_, fun p hp => ?_, fun s u => b s [u] rfl, fun H a ns hl _ hH hS => ?_, fun bs KB GB TB => ?_⟩
  · rw [one p hp]
    exact c.empty _ wk
  · rw [one p hp]
    exact c.out _ wk
  · rw [one p hp]
    exact PySem.W.codeHd_of_K KX (c.hd _ wk)
  · have tb : Tb H := fun q hq => by
      rw [List.mem_singleton.mp hq]
      exact LamX.TabS.nil (hH _ List.mem_cons_self)
    exact ⟨H, Is (.bl true), Ex.refl tb, ⟨a, ns, rfl, hS, hl, rfl⟩, fun v B' H' _ q => q⟩
  · exact law_end (h := bs) KB GB c.t.d (TB _ List.mem_cons_self) rfl F
end K7
open PySem PySem.W PySem.Calls PyProof.Rows
theorem PySem.Challenge.cw_promptworks_k77_held_wishes_count_anew_holds : PySem.Challenge.rw_promptworks_k77_held_wishes_count_anew.Holds := by
  w_on; o_law
  refine HandSHeadRun.head_any (r := K7.hR) (q := view K7.hR.prog [51]) (H := K7.hk) (ob := K7.hob) (M := 6000) (loose := K7.hloose) (d := HandSHeadRun.topDef K7.hR.prog 51) (kwd := []) K7.hob_eq (by kernel_rfl) (fun s => by kernel_rfl) K7.hrun (by kernel_rfl) (by kernel_rfl) (by kernel_rfl) (by rfl)
    (by first | assumption | decide +kernel) (by decide +kernel) ⟨rfl, rfl, rfl, rfl, rfl, by decide +kernel⟩ ?hw ?hc
  case hw => w_witness2
  case hc =>
    refine LamX.walk_ofTsE (l := PySem.Challenge.rw_promptworks_k77_held_wishes_count_anew) (n := 63) (k := 13) (x := "script") (CX := fun _ => L2.CX0) rfl (by decide) (by kernel_rfl) ⟨rfl, by decide, by decide⟩ ?F (fun _ _ _ _ _ z => z)
    intro w mg fa h Y G hmg0
    obtain ⟨K, KX, c⟩ := Y
    have hmg : mg ("law" : PySem.Str) = some (.ref fa) := by
      have e : (HandSHeadRun.topDef K7.hR.prog 51).name = ("law" : PySem.Str) := by kernel_rfl
      rw [← e]
      exact hmg0
    exact ⟨K, KX, K7.law_at KX c G hmg⟩
