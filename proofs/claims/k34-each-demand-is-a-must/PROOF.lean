import PyProof.Rows.All
import Wide.All
import OpenK.AllK
import Wide.FinOn
import KE.KStateDown
import HandS.ForMost
import HandS.ForExc
import HandS.Evl
import HandS.Conv
import HandS.Deep
import HandS.TupAny
import HandS.Style
import HandS.Zip
import HandS.Walk
import HandS.IsInst
import HandS.DictComp
import HandS.SetFor
import HandS.Defaults
import HandS.ExcInit
import HandS.ExcField
import HandS.ExcIs
import HandS.More
import PyProof.ZipIter
import HandS.Zip0
import KE.KDictList
import PyProof.EnumMake
import PyProof.DictCompW
import HandS.SetKeys
import HandS.SetBool
import PyProof.ReprRoads
import HandS.HeadEnd
import KE.KExcInit
import HandS.ClsMeth
import HandS.Codes
import HandS.CallSlots
import HandS.WordsExc
import PyProof.ReprBulk
import HandS.Text
import HandS.Head0
import HandS.Head1
import HandS.Head2
import HandS.HeadHook1
import HandS.HeadHook2
import Lean
import PySem.Challenge.RW_groupsteps_k34_whole_each_demand_is_a_mu
set_option Elab.async false
set_option linter.all false
set_option maxRecDepth 100000
set_option maxHeartbeats 4000000
/-! GsA: data in the heap, growing heaps, what an expression comes to. -/
namespace Gs
open PySem PySem.Spec PyProof.Rows L2 Evl

/-! ### data stays where the heap grows -/
mutual
theorem dp_mono {K : PySem.W.Frag} {H H' : Hp} (e : Ex H H') : ∀ {v : V} {d : PyData}, Dp K H v d → Dp K H' v d
  | _, _, .non => .non
  | _, _, .bl b => .bl b
  | _, _, .int i => .int i
  | _, _, .str x => .str x
  | _, _, .lst h a => .lst (ex_l e h) (dps_mono e a)
  | _, _, .tup h a => .tup (ex_t e h) (dps_mono e a)
theorem dps_mono {K : PySem.W.Frag} {H H' : Hp} (e : Ex H H') : ∀ {vs : List V} {ds : List PyData}, DpAll K H vs ds → DpAll K H' vs ds
  | _, _, .nil => .nil
  | _, _, .cons h a => .cons (dp_mono e h) (dps_mono e a)
end
theorem dps_append {K : PySem.W.Frag} {H : Hp} : ∀ {vs ws : List V} {ds es : List PyData}, DpAll K H vs ds → DpAll K H ws es → DpAll K H (vs ++ ws) (ds ++ es)
  | _, _, _, _, .nil, b => b
  | _, _, _, _, .cons h a, b => .cons h (dps_append a b)
theorem dps_snoc {K : PySem.W.Frag} {H : Hp} {vs : List V} {ds : List PyData} {v : V} {d : PyData} (a : DpAll K H vs ds) (h : Dp K H v d) : DpAll K H (vs ++ [v]) (ds ++ [d]) := dps_append a (.cons h .nil)
theorem dps_len {K : PySem.W.Frag} {H : Hp} : ∀ {vs : List V} {ds : List PyData}, DpAll K H vs ds → vs.length = ds.length
  | _, _, .nil => rfl
  | _, _, .cons _ a => by rw [List.length_cons, List.length_cons, dps_len a]
theorem dps_get {K : PySem.W.Frag} {H : Hp} : ∀ {vs : List V} {ds : List PyData} {i : Nat} {v : V}, DpAll K H vs ds → vs[i]? = some v → ∃ d, ds[i]? = some d ∧ Dp K H v d
  | _, _, _, _, .nil, e => by simp at e
  | _, _, 0, _, .cons h _, e => by simp at e; subst e; exact ⟨_, rfl, h⟩
  | _, _, i + 1, _, .cons _ a, e => by
    obtain ⟨d, h1, h2⟩ := dps_get (i := i) a (by simpa using e)
    exact ⟨d, by simpa using h1, h2⟩
theorem dps_at {K : PySem.W.Frag} {H : Hp} : ∀ {vs : List V} {ds : List PyData} {i : Nat} {d : PyData}, DpAll K H vs ds → ds[i]? = some d → ∃ v, vs[i]? = some v ∧ Dp K H v d
  | _, _, _, _, .nil, e => by simp at e
  | _, _, 0, _, .cons h _, e => by simp at e; subst e; exact ⟨_, rfl, h⟩
  | _, _, i + 1, _, .cons _ a, e => by
    obtain ⟨d, h1, h2⟩ := dps_at (i := i) a (by simpa using e)
    exact ⟨d, by simpa using h1, h2⟩
theorem dps_ints {K : PySem.W.Frag} {H : Hp} : ∀ ns : List Int, DpAll K H (ns.map V.int) (ns.map PyData.int)
  | [] => .nil
  | n :: r => .cons (.int n) (dps_ints r)
theorem dps_strs {K : PySem.W.Frag} {H : Hp} : ∀ ns : List Str, DpAll K H (ns.map V.str) (ns.map PyData.str)
  | [] => .nil
  | n :: r => .cons (.str n) (dps_strs r)
theorem dps_ints_inv {K : PySem.W.Frag} {H : Hp} : ∀ {ns : List Int} {vs : List V}, DpAll K H vs (ns.map PyData.int) → vs = ns.map V.int
  | [], _, .nil => rfl
  | n :: r, _, .cons h a => by
    cases h
    rw [dps_ints_inv a] <;> rfl
theorem dps_strs_inv {K : PySem.W.Frag} {H : Hp} : ∀ {ns : List Str} {vs : List V}, DpAll K H vs (ns.map PyData.str) → vs = ns.map V.str
  | [], _, .nil => rfl
  | n :: r, _, .cons h a => by
    cases h
    rw [dps_strs_inv a] <;> rfl
theorem dps_nil_inv {K : PySem.W.Frag} {H : Hp} {vs : List V} (h : DpAll K H vs []) : vs = [] := by cases h; rfl
theorem dps_cons_inv {K : PySem.W.Frag} {H : Hp} {vs : List V} {d : PyData} {ds : List PyData} (h : DpAll K H vs (d :: ds)) : ∃ v r, vs = v :: r ∧ Dp K H v d ∧ DpAll K H r ds := by
  cases h with
  | cons a b => exact ⟨_, _, rfl, a, b⟩
theorem dp_int {K : PySem.W.Frag} {H : Hp} {v : V} {i : Int} (h : Dp K H v (.int i)) : v = .int i := by cases h; rfl
theorem dp_str {K : PySem.W.Frag} {H : Hp} {v : V} {x : Str} (h : Dp K H v (.str x)) : v = .str x := by cases h; rfl
theorem dp_bl {K : PySem.W.Frag} {H : Hp} {v : V} {b : Bool} (h : Dp K H v (.bool b)) : v = .bl b := by cases h; rfl
theorem dp_non {K : PySem.W.Frag} {H : Hp} {v : V} (h : Dp K H v .none) : v = .non := by cases h; rfl
theorem dp_lst {K : PySem.W.Frag} {H : Hp} {v : V} {ds : List PyData} (h : Dp K H v (.list ds)) : ∃ a xs, v = .ref a ∧ SqL K H a xs ∧ DpAll K H xs ds := by
  cases h with
  | lst s a => exact ⟨_, _, rfl, s, a⟩
theorem dp_tup {K : PySem.W.Frag} {H : Hp} {v : V} {ds : List PyData} (h : Dp K H v (.tuple ds)) : ∃ a xs, v = .ref a ∧ SqT K H a xs ∧ DpAll K H xs ds := by
  cases h with
  | tup s a => exact ⟨_, _, rfl, s, a⟩

/-! ### a part N of the heap C, grown to N' of C': what is new in N' is new in C' -/
structure Gr (N C N' C' : Hp) : Prop where
  up : Ex N N'
  sub : Ex N' C'
  ext : Ex C C'
  dom : ∀ b o, N' b = some o → (∃ u, N b = some u) ∨ C b = none ∨ ∃ xs, o = .tup xs
theorem Gr.refl {N C : Hp} (e : Ex N C) : Gr N C N C := ⟨Ex.refl _, e, Ex.refl _, fun b o h => .inl ⟨o, h⟩⟩
theorem Gr.trans {N C N1 C1 N2 C2 : Hp} (a : Gr N C N1 C1) (b : Gr N1 C1 N2 C2) : Gr N C N2 C2 := ⟨a.up.trans b.up, b.sub, a.ext.trans b.ext, fun c o h => by
  rcases b.dom c o h with ⟨u, hu⟩ | hn | ht
  · rcases a.dom c u hu with h1 | h1 | ⟨xs, h1⟩
    · exact .inl h1
    · exact .inr (.inl h1)
    · have := b.up c u hu
      rw [h] at this
      cases this
      exact .inr (.inr ⟨xs, h1⟩)
  · exact .inr (.inl (fresh_back a.ext hn))
  · exact .inr (.inr ht)⟩
theorem Gr.grow {N C N' C' C2 : Hp} (a : Gr N C N' C') (e : Ex C' C2) : Gr N C N' C2 := ⟨a.up, a.sub.trans e, a.ext.trans e, a.dom⟩
theorem Gr.of_ex {N C C' : Hp} (e : Ex N C) (e2 : Ex C C') : Gr N C N C' := (Gr.refl e).grow e2
/-- what is not in the part, but there (no tuple), stays out of it -/
theorem Gr.outO {N C N' C' : Hp} (a : Gr N C N' C') {l : Addr} {o : HO} (h : N l = none) (hc : C l = some o) (ht : ∀ xs, o ≠ .tup xs) : N' l = none := by
  cases e : N' l with
  | none => rfl
  | some u =>
    rcases a.dom l u e with ⟨w, hw⟩ | hn | ⟨xs, hx⟩
    · rw [h] at hw; cases hw
    · rw [hc] at hn; cases hn
    · have h1 := a.sub l u e
      have h2 := a.ext l o hc
      rw [h1] at h2
      cases h2
      exact absurd hx (ht xs)
theorem Gr.out {N C N' C' : Hp} (a : Gr N C N' C') {l : Addr} {ys : List V} (h : N l = none) (hc : C l = some (.lst ys)) : N' l = none := a.outO h hc fun _ z => by cases z
theorem Gr.mut {N C N' C' : Hp} (a : Gr N C N' C') {l : Addr} {o : HO} (h : C l = none) (hn : N' l = none) : Gr N C N' (upd C' l o) :=
  ⟨a.up, fun b u e => by
    rw [upd_ne (ne_of_none e hn)]
    exact a.sub b u e, a.ext.mut h, a.dom⟩
theorem Gr.take {N C N' C' : Hp} (a : Gr N C N' C') {l : Addr} {o : HO} (hl : C' l = some o) (h : C l = none) (hN : N l = none) : Gr N C (upd N' l o) C' :=
  ⟨a.up.mut hN, fun b u e => by
    by_cases q : b = l
    · subst q; rw [upd_same] at e; cases e; exact hl
    · rw [upd_ne q] at e; exact a.sub b u e, a.ext, fun b u e => by
    by_cases q : b = l
    · subst q; exact .inr (.inl h)
    · rw [upd_ne q] at e; exact a.dom b u e⟩
theorem Gr.new {N C N' C' : Hp} (a : Gr N C N' C') {l : Addr} {o : HO} (h : C' l = none) : Gr N C (upd N' l o) (upd C' l o) :=
  have e : Ex C' (upd C' l o) := Ex.new h
  (a.grow e).take upd_same (fresh_back a.ext h) (fresh_back (a.up.trans a.sub) h)
/-- a tuple that is there may be counted in -/
theorem Gr.addT {N C N' C' : Hp} (a : Gr N C N' C') {l : Addr} {xs : List V} (hl : C' l = some (.tup xs)) : Gr N C (upd N' l (.tup xs)) C' ∧ Ex N' (upd N' l (.tup xs)) := by
  have up : Ex N' (upd N' l (.tup xs)) := fun b u e => by
    by_cases q : b = l
    · subst q
      have := a.sub b u e
      rw [hl] at this
      cases this
      exact upd_same
    · rw [upd_ne q]; exact e
  refine ⟨⟨a.up.trans up, fun b u e => ?_, a.ext, fun b u e => ?_⟩, up⟩
  · by_cases q : b = l
    · subst q; rw [upd_same] at e; cases e; exact hl
    · rw [upd_ne q] at e; exact a.sub b u e
  · by_cases q : b = l
    · subst q; rw [upd_same] at e; cases e; exact .inr (.inr ⟨xs, rfl⟩)
    · rw [upd_ne q] at e; exact a.dom b u e
/-- the part may be made larger by what stood before -/
def un (M N : Hp) : Hp := fun b => match M b with
  | some o => some o
  | none => N b
theorem un_l {M N : Hp} : Ex M (un M N) := fun b o e => by unfold un; rw [e]
theorem un_r {M N C : Hp} (hm : Ex M C) (hn : Ex N C) : Ex N (un M N) := fun b o e => by
  unfold un
  cases q : M b with
  | none => exact e
  | some u =>
    have h1 := hm b u q
    have h2 := hn b o e
    rw [h1] at h2
    exact h2
theorem Gr.more {N M C N' C' : Hp} (a : Gr N C N' C') (e : Ex N M) (eM : Ex M C) : Gr M C (un M N') C' ∧ Ex N' (un M N') := by
  have hm : Ex M C' := eM.trans a.ext
  refine ⟨⟨un_l, fun b o h => ?_, a.ext, fun b o h => ?_⟩, un_r hm a.sub⟩
  · unfold un at h
    cases q : M b with
    | none => rw [q] at h; exact a.sub b o h
    | some u => rw [q] at h; cases h; exact hm b _ q
  · unfold un at h
    cases q : M b with
    | none =>
      rw [q] at h
      rcases a.dom b o h with ⟨u, hu⟩ | hn | ht
      · have := e b u hu
        rw [q] at this; cases this
      · exact .inr (.inl hn)
      · exact .inr (.inr ht)
    | some u => exact .inl ⟨u, rfl⟩

/-! ### properties of a value that stay where the heap grows -/
structure MP where
  p : V → Hp → Prop
  mono : ∀ {v : V} {H H' : Hp}, Ex H H' → p v H → p v H'
/-- it is v -/
def mIs (v : V) : MP := ⟨fun x _ => x = v, fun _ h => h⟩
/-- it is the data d -/
def mD (K : PySem.W.Frag) (d : PyData) : MP := ⟨fun x H => Dp K H x d, fun e h => dp_mono e h⟩
/-- it is some data of R -/
def mR (K : PySem.W.Frag) (R : PyData → Prop) : MP := ⟨fun x H => ∃ d, R d ∧ Dp K H x d, fun e ⟨d, r, h⟩ => ⟨d, r, dp_mono e h⟩⟩
/-- it is an int of A -/
def mI (A : Int → Prop) : MP := ⟨fun x _ => ∃ i, x = .int i ∧ A i, fun _ h => h⟩
def mB (A : Bool → Prop) : MP := ⟨fun x _ => ∃ b, x = .bl b ∧ A b, fun _ h => h⟩
def mS (A : Str → Prop) : MP := ⟨fun x _ => ∃ b, x = .str b ∧ A b, fun _ h => h⟩

/-- the expression comes to a value of P, the part N grown by what is new -/
def EvP (te : TE) (σ : L2.St) (N : Hp) (P : MP) : Prop := ∀ C, Ex N C → ∀ Q : VK, (∀ v N' C', Gr N C N' C' → P.p v N' → Q v C') → te σ C Q
def EvB (tt : TT) (σ : L2.St) (N : Hp) (A : Bool → Prop) : Prop := ∀ C, Ex N C → ∀ Q : Bool → Hp → Prop, (∀ b N' C', Gr N C N' C' → A b → Q b C') → tt σ C Q
/-- an argument list -/
structure ML where
  p : List V → Hp → Prop
  mono : ∀ {v : List V} {H H' : Hp}, Ex H H' → p v H → p v H'
def lNil : ML := ⟨fun vs _ => vs = [], fun _ h => h⟩
def lCons (P : MP) (L : ML) : ML := ⟨fun vs H => ∃ v r, vs = v :: r ∧ P.p v H ∧ L.p r H, fun e ⟨v, r, h1, h2, h3⟩ => ⟨v, r, h1, P.mono e h2, L.mono e h3⟩⟩
def lD (K : PySem.W.Frag) (ds : List PyData) : ML := ⟨fun vs H => DpAll K H vs ds, fun e h => dps_mono e h⟩
def EvAP (ta : TA) (σ : L2.St) (N : Hp) (L : ML) : Prop := ∀ C, Ex N C → ∀ Q : List V → Hp → Prop, (∀ vs N' C', Gr N C N' C' → L.p vs N' → Q vs C') → ta σ C Q

section
variable {K : PySem.W.Frag} {σ : L2.St} {N M : Hp} {ta tb te : TE} {t u : TT} {P P' : MP} {x y z v : V}
theorem EvP.imp (h : EvP te σ N P) (k : ∀ v M, Ex N M → P.p v M → P'.p v M) : EvP te σ N P' := fun C e Q q => h C e Q fun v N' C' g r => q v N' C' g (k v N' g.up r)
theorem EvP.up (h : EvP te σ N P) (e : Ex N M) : EvP te σ M P := fun C eM Q q => h C (e.trans eM) Q fun v N' C' g r =>
  have a := g.more e eM
  q v _ C' a.1 (P.mono a.2 r)
theorem EvB.up {A : Bool → Prop} (h : EvB t σ N A) (e : Ex N M) : EvB t σ M A := fun C eM Q q => h C (e.trans eM) Q fun v N' C' g r => q v _ C' (g.more e eM).1 r
theorem EvAP.up {ta : TA} {L : ML} (h : EvAP ta σ N L) (e : Ex N M) : EvAP ta σ M L := fun C eM Q q => h C (e.trans eM) Q fun v N' C' g r =>
  have a := g.more e eM
  q v _ C' a.1 (L.mono a.2 r)
theorem ep_ev (h : Ev te σ N v) : EvP te σ N (mIs v) := fun C e Q q => h C e Q fun H2 e2 => q v N H2 (Gr.of_ex e e2) rfl
theorem ev_ep (h : EvP te σ N (mIs v)) : Ev te σ N v := fun C e Q q => h C e Q fun v N' C' g r => by
  have r' : v = _ := r
  subst r'
  exact q C' g.ext
theorem ep_of (h : Ev te σ N v) (hp : P.p v N) : EvP te σ N P := fun C e Q q => h C e Q fun H2 e2 => q v N H2 (Gr.of_ex e e2) hp
theorem ep_var {i : Nat} (h : σ[i]? = some (some v)) (hp : P.p v N) : EvP (tVar i) σ N P := ep_of (ev_var h) hp
theorem eb_et {b : Bool} (h : EvT t σ N b) : EvB t σ N (· = b) := fun C e Q q => h C e Q fun H2 e2 => q b N H2 (Gr.of_ex e e2) rfl
theorem et_eb {b : Bool} (h : EvB t σ N (· = b)) : EvT t σ N b := fun C e Q q => h C e Q fun b' N' C' g r => by
  subst r
  exact q C' g.ext
/-- data that is a scalar is a value -/
theorem ev_dint {i : Int} (h : EvP te σ N (mD K (.int i))) : Ev te σ N (.int i) := ev_ep (h.imp fun v M _ r => dp_int r)
theorem ev_dstr {i : Str} (h : EvP te σ N (mD K (.str i))) : Ev te σ N (.str i) := ev_ep (h.imp fun v M _ r => dp_str r)
theorem ep_dint {i : Int} (h : Ev te σ N (.int i)) : EvP te σ N (mD K (.int i)) := ep_of h (Dp.int i)
theorem ep_dstr {i : Str} (h : Ev te σ N (.str i)) : EvP te σ N (mD K (.str i)) := ep_of h (Dp.str i)
/-- a new list of these -/
theorem ep_evL {xs : List V} {ds : List PyData} (h : EvL te σ N xs) (hd : DpAll K N xs ds) : EvP te σ N (mD K (.list ds)) := fun C e Q q => h C e Q fun p H2 n e2 hp => by
  refine q (.ref p) (upd N p (.lst xs)) H2 ((Gr.of_ex e e2).take hp n (fresh_back e n)) ?_
  exact Dp.lst (SqL.of upd_same) (dps_mono (Ex.new (fresh_back e n)) hd)
theorem ep_evU {xs : List V} {ds : List PyData} (h : EvU te σ N xs) (hd : DpAll K N xs ds) : EvP te σ N (mD K (.tuple ds)) := fun C e Q q => h C e Q fun p H2 n e2 hp => by
  refine q (.ref p) (upd N p (.tup xs)) H2 ((Gr.of_ex e e2).take hp n (fresh_back e n)) ?_
  exact Dp.tup (SqT.of upd_same) (dps_mono (Ex.new (fresh_back e n)) hd)

/-! two operands -/
def RP (r : R2) (x y : V) (N : Hp) (P : MP) : Prop := ∀ C, Ex N C → ∀ Q : VK, (∀ v N' C', Gr N C N' C' → P.p v N' → Q v C') → r x y C Q
theorem ep_op {r : R2} {P1 P2 : MP} (ha : EvP ta σ N P1) (hb : EvP tb σ N P2) (hr : ∀ x y M, Ex N M → P1.p x M → P2.p y M → RP r x y M P) : EvP (tOp r ta tb) σ N P := fun C e Q q =>
  ha C e _ fun x N1 C1 g1 p1 => hb.up g1.up C1 g1.sub _ fun y N2 C2 g2 p2 => hr x y N2 (g1.up.trans g2.up) (P1.mono g2.up p1) p2 C2 g2.sub Q fun v N3 C3 g3 p3 => q v N3 C3 (g1.trans (g2.trans g3)) p3
theorem rp_rv {r : R2} (h : RV r x y N z) (hp : P.p z N) : RP r x y N P := fun C e Q q => h C e Q fun H2 e2 => q z N H2 (Gr.of_ex e e2) hp
def RC1 (r : List V → Hp → VK → Prop) (vs : List V) (N : Hp) (P : MP) : Prop := ∀ C, Ex N C → ∀ Q : VK, (∀ v N' C', Gr N C N' C' → P.p v N' → Q v C') → r vs C Q
theorem ep_cb {r : List V → Hp → VK → Prop} {ta : TA} {L : ML} (ha : EvAP ta σ N L) (hr : ∀ vs M, Ex N M → L.p vs M → RC1 r vs M P) : EvP (tCB r ta) σ N P := fun C e Q q =>
  ha C e _ fun vs N1 C1 g1 p1 => hr vs N1 g1.up p1 C1 g1.sub Q fun v N2 C2 g2 p2 => q v N2 C2 (g1.trans g2) p2
theorem rc1_rc {r : List V → Hp → VK → Prop} {vs : List V} (h : RC r vs N z) (hp : P.p z N) : RC1 r vs N P := fun C e Q q => h C e Q fun H2 e2 => q z N H2 (Gr.of_ex e e2) hp
theorem ea_nilP : EvAP tNil σ N lNil := fun C e Q q => q [] N C (Gr.refl e) rfl
theorem ea_consP {tr : TA} {L : ML} (h : EvP te σ N P) (hr : EvAP tr σ N L) : EvAP (tCons te tr) σ N (lCons P L) := fun C e Q q =>
  h C e _ fun x N1 C1 g1 p1 => hr.up g1.up C1 g1.sub _ fun vs N2 C2 g2 p2 => q (x :: vs) N2 C2 (g1.trans g2) ⟨x, vs, rfl, P.mono g2.up p1, p2⟩
theorem ea_nilD : EvAP tNil σ N (lD K []) := fun C e Q q => q [] N C (Gr.refl e) DpAll.nil
theorem ea_consD {tr : TA} {d : PyData} {ds : List PyData} (h : EvP te σ N (mD K d)) (hr : EvAP tr σ N (lD K ds)) : EvAP (tCons te tr) σ N (lD K (d :: ds)) := fun C e Q q =>
  h C e _ fun x N1 C1 g1 p1 => hr.up g1.up C1 g1.sub _ fun vs N2 C2 g2 p2 => q (x :: vs) N2 C2 (g1.trans g2) (DpAll.cons (dp_mono g2.up p1) p2)
theorem ep_tup {ta : TA} {ds : List PyData} (h : EvAP ta σ N (lD K ds)) (hl : ds.length ≤ 100000) : EvP (tTup ta) σ N (mD K (.tuple ds)) := fun C e Q q =>
  h C e _ fun vs N1 C1 g1 p1 => ⟨sz_of (by rw [dps_len p1]; exact hl), fun p hp => by
    refine q (.ref p) (upd N1 p (.tup vs)) _ (g1.new hp) ?_
    exact Dp.tup (SqT.of upd_same) (dps_mono (Ex.new (fresh_back g1.sub hp)) p1)⟩
theorem ep_lst {ta : TA} {ds : List PyData} (h : EvAP ta σ N (lD K ds)) (hl : ds.length ≤ 100000) : EvP (tLst ta) σ N (mD K (.list ds)) := fun C e Q q =>
  h C e _ fun vs N1 C1 g1 p1 => ⟨sz_of (by rw [dps_len p1]; exact hl), fun p hp => by
    refine q (.ref p) (upd N1 p (.lst vs)) _ (g1.new hp) ?_
    exact Dp.lst (SqL.of upd_same) (dps_mono (Ex.new (fresh_back g1.sub hp)) p1)⟩
/-! tests -/
theorem eb_test {A : Bool → Prop} (h : EvP te σ N (mB A)) : EvB (tTest te) σ N A := fun C e Q q => h C e _ fun x N1 C1 g1 p1 => by
  obtain ⟨b, rfl, a⟩ := p1
  exact ⟨b, rfl, q b N1 C1 g1 a⟩
theorem eb_B {A : Bool → Prop} (h : EvP te σ N (mB A)) : EvB (tB te) σ N A := fun C e Q q => h C e _ fun x N1 C1 g1 p1 => by
  obtain ⟨b, rfl, a⟩ := p1
  exact ⟨b, rfl, q b N1 C1 g1 a⟩
theorem ep_if {b : Bool} (h : EvT t σ N b) (h1 : b = true → EvP ta σ N P) (h2 : b = false → EvP tb σ N P) : EvP (tIf t ta tb) σ N P := fun C e Q q =>
  h C e _ fun H2 e2 => by
    cases b with
    | true => exact iteT (h1 rfl H2 (e.trans e2) Q fun v N' C' g r => q v N' C' ((Gr.of_ex e e2).trans g) r)
    | false => exact iteF (h2 rfl H2 (e.trans e2) Q fun v N' C' g r => q v N' C' ((Gr.of_ex e e2).trans g) r)
end

/-! ### promises of defs that leave all as it was -/
def spP (pre : List V → Hp → MP → Prop) : Sp := fun vs C Q _ => ∃ (N : Hp) (P : MP), Ex N C ∧ pre vs N P ∧ ∀ v N' C', Gr N C N' C' → P.p v N' → Q v C'
section
variable {σ : L2.St} {N : Hp} {ta te : TE} {P : MP}
theorem ep_call {pre : List V → Hp → MP → Prop} {E : XK} {ta : TA} {L : ML} (h : EvAP ta σ N L) (hs : ∀ vs M, Ex N M → L.p vs M → pre vs M P) : EvP (tCall (spP pre) [] E ta) σ N P := fun C e Q q =>
  h C e _ fun vs N1 C1 g1 p1 => ⟨N1, P, g1.sub, by rw [List.append_nil]; exact hs vs N1 g1.up p1, fun v N2 C2 g2 p2 => q v N2 C2 (g1.trans g2) p2⟩
theorem ep_meth {K : PySem.W.Frag} {C0 : Addr} {m : Str} {pre : List V → Hp → MP → Prop} {E : XK} {ta : TA} {to : TE} {L : ML} {c dx : Addr} {fs : List (Str × V)} (ho : Ev to σ N (.ref c)) (hc : N c = some (.ins C0 dx fs)) (hm : fs.lookup m = none)
    (h : EvAP ta σ N L) (hs : ∀ vs M, Ex N M → L.p vs M → pre (.ref c :: vs) M P) : EvP (tMeth C0 m (spP pre) [] E to ta) σ N P := fun C e Q q =>
  ho C e _ fun H2 e2 => ⟨c, dx, fs, rfl, (e.trans e2) c _ hc, hm, h H2 (e.trans e2) _ fun vs N1 C1 g1 p1 => ⟨N1, P, g1.sub, by rw [List.append_nil]; exact hs vs N1 g1.up p1, fun v N2 C2 g2 p2 => q v N2 C2 ((Gr.of_ex e e2).trans (g1.trans g2)) p2⟩⟩
end

/-! ### dicts, fields -/
theorem dget_mono {H H' : Hp} (e : Ex H H') {a : Addr} {y : V} {r : Option V} (h : DGet H a y r) : DGet H' a y r := by
  rcases h with ⟨kvs, k, h1, h2, h3⟩ | ⟨kvs, k, b, h1, h2, h3, h4⟩
  · exact .inl ⟨kvs, k, ex_rd e h1, h2, h3⟩
  · exact .inr ⟨kvs, k, b, ex_rd e h1, h2, e b _ h3, h4⟩
section
variable {K : PySem.W.Frag} {σ : L2.St} {N : Hp} {td ty te : TE} {v y : V} {a : Addr}
theorem ev_dget (hd : Ev td σ N (.ref a)) (hy : Ev ty σ N y) (g : DGet N a y (some v)) : Ev (tDGet td ty) σ N v := fun C e Q q =>
  hd C e _ fun H1 e1 => hy H1 (e.trans e1) _ fun H2 e2 => ⟨a, v, rfl, dget_mono (e.trans (e1.trans e2)) g, q H2 (e1.trans e2)⟩
theorem ev_dgetU {kvs : List (List Key × V)} {k : List Key} (hd : Ev td σ N (.ref a)) (hy : EvU ty σ N (k.map kV)) (h : N a = some (.dT kvs)) (g : valV kvs k = some v) : Ev (tDGet td ty) σ N v := fun C e Q q =>
  hd C e _ fun H1 e1 => hy H1 (e.trans e1) _ fun p H2 _ e2 hp => ⟨a, v, rfl, by rw [← g]; exact DGet.t ((e.trans (e1.trans e2)) a _ h) hp, q H2 (e1.trans e2)⟩
theorem et_din {o : Option V} (hy : Ev ty σ N y) (hd : Ev td σ N (.ref a)) (g : DGet N a y o) : EvT (tB (tDIn ty td)) σ N o.isSome := fun C e Q q =>
  hy C e _ fun H1 e1 => hd H1 (e.trans e1) _ fun H2 e2 => ⟨a, o, rfl, dget_mono (e.trans (e1.trans e2)) g, _, rfl, q H2 (e1.trans e2)⟩
theorem et_dnin {o : Option V} (hy : Ev ty σ N y) (hd : Ev td σ N (.ref a)) (g : DGet N a y o) : EvT (tB (tDNotIn ty td)) σ N (!o.isSome) := fun C e Q q =>
  hy C e _ fun H1 e1 => hd H1 (e.trans e1) _ fun H2 e2 => ⟨a, o, rfl, dget_mono (e.trans (e1.trans e2)) g, _, rfl, q H2 (e1.trans e2)⟩
theorem ev_dnin {o : Option V} (hy : Ev ty σ N y) (hd : Ev td σ N (.ref a)) (g : DGet N a y o) : Ev (tDNotIn ty td) σ N (.bl (!o.isSome)) := fun C e Q q =>
  hy C e _ fun H1 e1 => hd H1 (e.trans e1) _ fun H2 e2 => ⟨a, o, rfl, dget_mono (e.trans (e1.trans e2)) g, q H2 (e1.trans e2)⟩
theorem ev_fld {C0 c dx : Addr} {fs : List (Str × V)} {f : Str} (ho : Ev te σ N (.ref c)) (hc : N c = some (.ins C0 dx fs)) (cl : Cls K C0) (na : NoAttr K C0 f) (hl : fs.lookup f = some v) : Ev (tFld K te f) σ N v := fun C e Q q =>
  ho C e _ fun H1 e1 => ⟨c, C0, dx, fs, v, rfl, (e.trans e1) c _ hc, cl, na, hl, q H1 e1⟩
/-- an item of data -/
theorem ep_ixL {ta tb : TE} {ds : List PyData} {d : PyData} {i : Int} (ha : EvP ta σ N (mD K (.list ds))) (hb : Ev tb σ N (.int i)) (hd : atI ds i = some d) : EvP (tOp (rIxL K) ta tb) σ N (mD K d) :=
  ep_op ha (ep_ev hb) fun x y M _ p1 p2 => by
    obtain ⟨a, xs, rfl, s, al⟩ := dp_lst p1
    have p2' : y = _ := p2
    subst p2'
    obtain ⟨j, h1, h2, h3, h4, h5⟩ := atI_get hd
    obtain ⟨v, hv, dv⟩ := dps_at al h2
    have hx : atI xs i = some v := by
      unfold atI at hd ⊢
      rw [dps_len al]
      cases q : ixN ds.length i with
      | none => rw [q] at hd; cases hd
      | some j' =>
        rw [q] at hd
        have hd' : ds[j']? = some d := hd
        show xs[j']? = some v
        have z := (ixN_seq q).1
        rw [h1] at z
        cases z
        exact hv
    exact rp_rv (rv_ixL s hx) dv
theorem ep_ixT {ta tb : TE} {ds : List PyData} {d : PyData} {i : Int} (ha : EvP ta σ N (mD K (.tuple ds))) (hb : Ev tb σ N (.int i)) (hd : atI ds i = some d) : EvP (tOp (rIxT K) ta tb) σ N (mD K d) :=
  ep_op ha (ep_ev hb) fun x y M _ p1 p2 => by
    obtain ⟨a, xs, rfl, s, al⟩ := dp_tup p1
    have p2' : y = _ := p2
    subst p2'
    obtain ⟨j, h1, h2, h3, h4, h5⟩ := atI_get hd
    obtain ⟨v, hv, dv⟩ := dps_at al h2
    have hx : atI xs i = some v := by
      unfold atI at hd ⊢
      rw [dps_len al]
      cases q : ixN ds.length i with
      | none => rw [q] at hd; cases hd
      | some j' =>
        rw [q] at hd
        have hd' : ds[j']? = some d := hd
        show xs[j']? = some v
        have z := (ixN_seq q).1
        rw [h1] at z
        cases z
        exact hv
    exact rp_rv (rv_ixT s hx) dv
end
end Gs

set_option Elab.async false
set_option linter.all false
set_option maxRecDepth 100000
set_option maxHeartbeats 4000000
/-! GsZip: zip of a list or tuple with a list or tuple; list(zip(..)); enumerate of a tuple. -/
namespace Gz
open PySem
open PySem.Sem (wp)

/-- the iterator at i stands at place k of the list (the tuple, where tp) at l -/
def Src (h : Heap) (tp : Bool) (i l : Addr) (k : Nat) : Prop := match tp with
  | true => h.IsTupleIter i l k
  | false => h.IsListIter i l k
def Sq (h : Heap) (tp : Bool) (l : Addr) (xs : Array Value) : Prop := match tp with
  | true => h.IsTuple l xs
  | false => h.IsList l xs
theorem Src.go {h h' : Heap} {tp : Bool} {i l : Addr} {k : Nat} (x : Src h tp i l k) (e : ∀ o, h.get? i = some o → h'.get? i = some o) : Src h' tp i l k := by
  cases tp with
  | true => exact Heap.IsTupleIter.at x e
  | false => exact Heap.IsListIter.at x e
theorem Sq.go {h h' : Heap} {tp : Bool} {l : Addr} {xs : Array Value} (x : Sq h tp l xs) (e : ∀ o, h.get? l = some o → h'.get? l = some o) : Sq h' tp l xs := by
  cases tp with
  | true =>
    obtain ⟨o, ho, r⟩ := x
    exact ⟨o, e o ho, r⟩
  | false =>
    obtain ⟨o, ho, r⟩ := x
    exact ⟨o, e o ho, r⟩
theorem Src.obj {h : Heap} {tp : Bool} {i l : Addr} {k : Nat} (x : Src h tp i l k) : ∃ o, h.get? i = some o ∧ ∀ v, o.data ≠ .cell v := by
  cases tp with
  | true =>
    obtain ⟨o, e, _, d⟩ := x
    exact ⟨o, e, fun v q => by rw [d] at q; cases q⟩
  | false =>
    obtain ⟨o, e, _, d⟩ := x
    exact ⟨o, e, fun v q => by rw [d] at q; cases q⟩

section
variable {prog : Program} {w : World} {A : Around} {E : Value → Shared → Prop} {s : Shared}
theorem draw_item {tp : Bool} {i l : Addr} {k : Nat} {xs : Array Value} {x : Value} {Q : Value → Shared → Prop} (hi : Src s.heap tp i l k) (hl : Sq s.heap tp l xs) (hx : xs[k]? = some x)
    (q : ∀ h', Src h' tp i l (k + 1) → Heap.SameBut i s.heap h' → Q x { s with heap := h' }) : wpAny (model prog w) A (Builtin.SmallTypes.nextOf (.ref i)) Q E s := by
  cases tp with
  | true => exact RZ.nextOf_tuple_item hi hl hx q
  | false => exact wpAny_nextOf_list_item hi hl hx q
theorem draw_end {tp : Bool} {i l : Addr} {k : Nat} {xs : Array Value} {Q : Value → Shared → Prop} (hh : A.handled = none) (hi : Src s.heap tp i l k) (hl : Sq s.heap tp l xs) (hx : xs[k]? = none)
    (q : ∀ h' e, Heap.ExtBut i s.heap h' → (∃ o, h'.get? e = some o ∧ o.cls = .type "StopIteration") → E (.ref e) { s with heap := h' }) : wpAny (model prog w) A (Builtin.SmallTypes.nextOf (.ref i)) Q E s := by
  cases tp with
  | true => exact RZ.nextOf_tuple_end hh hi hl hx q
  | false => exact wpAny_nextOf_list_end hh hi hl hx q

/-- the zip object, its own tuple given out as f0, f1 -/
def ZipOb (h : Heap) (z TI TO : Addr) (f0 : Value) (b : Bool) : Prop := h.get? z = some { cls := .type "zip", dict := none, data := .fields #[f0, .bool b, .bool false, .ref TI, .ref TO], slots := #[] }

section
variable {z TI TO i1 i2 l1 l2 : Addr} {t1 t2 : Bool} {k1 k2 : Nat} {xs ys : Array Value} {x y a b : Value}
theorem alive_ok {M : Model} {c : Addr} {o : Obj} {Q : Option Obj → Shared → Prop} (h : s.heap.get? c = some o) (q : Q (some o) s) : wpAny M A (loadIfAlive c) Q E s := fun G p _ => by
  show Sem.wp M G (Sem.loadIfAlive c Sem.pure) _ _ p s
  rw [Sem.wp_loadIfAlive, h]
  exact q
/-- the own tuple is free: it is filled, a copy is handed out -/
theorem next_free {Q : Value → Shared → Prop} (D : ZipApart z TI TO i1 i2 l1 l2) (hz : ZipOb s.heap z TI TO .none false) (hI : IsPair s.heap TI (.ref i1) (.ref i2)) (hO : IsPair s.heap TO a b)
    (h1 : Src s.heap t1 i1 l1 k1) (h2 : Src s.heap t2 i2 l2 k2) (q1 : Sq s.heap t1 l1 xs) (q2 : Sq s.heap t2 l2 ys) (hx : xs[k1]? = some x) (hy : ys[k2]? = some y)
    (k : ∀ h', ZipOb h' z TI TO (rawInt s.heap.objs.size) false → IsPair h' TO x y → Src h' t1 i1 l1 (k1 + 1) → Src h' t2 i2 l2 (k2 + 1) → IsPair h' s.heap.objs.size x y →
      (∀ c o, c ≠ z → c ≠ TO → c ≠ i1 → c ≠ i2 → s.heap.get? c = some o → h'.get? c = some o) → Q (.ref s.heap.objs.size) { s with heap := h' }) :
    wpAny (model prog w) A (Builtin.«zip.__next__» ⟨[.ref z], []⟩) (fun fin s' => ∃ v, fin = .done (.ret v) ∧ Q v s') E s := by
  show wpAny _ _ (field (.ref z) 2 >>= _) _ _ _
  refine wpAny_bind (wpAny_field hz rfl (x := .bool false) rfl ?_)
  show wpAny _ _ (field (.ref z) 3 >>= _) _ _ _
  refine wpAny_bind (wpAny_field hz rfl (x := .ref TI) rfl (wpAny_bind (wpAny_seqItems hI rfl ?_)))
  show wpAny _ _ (Builtin.SmallTypes.ownedTupleIsFree (.ref z) >>= _) _ _ _
  refine wpAny_bind ?_
  unfold Builtin.SmallTypes.ownedTupleIsFree
  refine wpAny_bind (wpAny_field hz rfl (x := .none) rfl (wpAny_pure ?_))
  simp only [if_true]
  refine wpAny_bind (wpAny_rule (wpAny_bind (wpAny_field hz rfl (x := .ref TO) rfl ?_)))
  refine wpAny_bind (wpAny_setField_rec hz (by simp) fun g1 z1 e1 => wpAny_bind ?_)
  simp only [List.zipIdx_cons, List.zipIdx_nil, List.forIn_cons, List.forIn_nil]
  -- the first one
  refine wpAny_bind (wpAny_bind (wpAny_onRaise ?_))
  show wpAny _ _ (Builtin.SmallTypes.nextOf (.ref i1) >>= _) _ _ _
  refine wpAny_bind (draw_item (h1.go fun o e => e1.extBut _ _ D.i1z e) (q1.go fun o e => e1.extBut _ _ D.l1z e) hx fun g2 s1 e2 => wpAny_pure ?_)
  have o2 : IsPair g2 TO a b := e2.extBut _ _ D.TOi1 (e1.extBut _ _ D.TOz hO)
  refine wpAny_bind (wpAny_seqItems o2 rfl (wpAny_bind (wpAny_updateSeq_pair o2 fun g3 o3 e3 => wpAny_bind (wpAny_letGo (wpAny_pure ?_)))))
  have o3' : IsPair g3 TO x b := o3
  have up3 : ∀ c o, c ≠ z → c ≠ TO → c ≠ i1 → s.heap.get? c = some o → g3.get? c = some o := fun c o c1 c2 c3 e => e3.extBut _ _ c2 (e2.extBut _ _ c3 (e1.extBut _ _ c1 e))
  -- the second one
  refine wpAny_bind (wpAny_bind (wpAny_onRaise ?_))
  show wpAny _ _ (Builtin.SmallTypes.nextOf (.ref i2) >>= _) _ _ _
  refine wpAny_bind (draw_item (h2.go fun o e => up3 _ o D.i2z D.TOi2.symm D.i12.symm e) (q2.go fun o e => up3 _ o D.l2z D.l2TO D.l2i1 e) hy fun g4 s2 e4 => wpAny_pure ?_)
  have o4 : IsPair g4 TO x b := e4.extBut _ _ D.TOi2 o3'
  refine wpAny_bind (wpAny_seqItems o4 rfl (wpAny_bind (wpAny_updateSeq_pair o4 fun g5 o5 e5 => wpAny_bind (wpAny_letGo (wpAny_pure (wpAny_pure ?_))))))
  have o5' : IsPair g5 TO x y := o5
  refine wpAny_bind (wpAny_seqItems o5' rfl (wpAny_bind (wpAny_newTuple ?_)))
  have n5 : g5.objs.size = s.heap.objs.size := by rw [e5.1, e4.1, e3.1, e2.1, e1.1]
  have z5 : ZipOb g5 z TI TO .ellipsis false := e5.extBut _ _ D.TOz.symm (e4.extBut _ _ D.i2z.symm (e3.extBut _ _ D.TOz.symm (e2.extBut _ _ D.i1z.symm z1)))
  have up5 : ∀ c o, c ≠ z → c ≠ TO → c ≠ i1 → c ≠ i2 → s.heap.get? c = some o → g5.get? c = some o := fun c o c1 c2 c3 c4 e => e5.extBut _ _ c2 (e4.extBut _ _ c4 (up3 c o c1 c2 c3 e))
  have lz : z < g5.objs.size := Heap.lt_size z5
  show wpAny _ _ (Builtin.SmallTypes.ownedTupleHandOut (.ref z) (.ref g5.objs.size) >>= _) _ _ _
  refine wpAny_bind ?_
  unfold Builtin.SmallTypes.ownedTupleHandOut
  have z6 : ZipOb (g5.push { cls := .type "tuple", data := .seq #[x, y] }) z TI TO .ellipsis false := Heap.get?_push_of_some _ z5
  refine wpAny_bind (wpAny_setField_rec z6 (by simp) fun g7 z7 e7 => wpAny_setField_rec z7 (by simp) fun g8 z8 e8 => ?_)
  have up : ∀ c o, c ≠ z → g5.get? c = some o → g8.get? c = some o := fun c o c1 e => e8.extBut _ _ c1 (e7.extBut _ _ c1 (Heap.get?_push_of_some _ e))
  have T8 : IsPair g8 g5.objs.size x y := e8.extBut _ _ (Nat.ne_of_gt lz) (e7.extBut _ _ (Nat.ne_of_gt lz) (Heap.get?_push_size _ rfl))
  have z8' : ZipOb g8 z TI TO (rawInt g5.objs.size) false := z8
  rw [n5] at T8 z8'
  refine wpAny_pure ⟨_, rfl, ?_⟩
  show Q (.ref g5.objs.size) _
  rw [n5]
  refine k g8 z8' (up _ _ D.TOz o5') (s1.go fun o e => up _ o D.i1z (e5.extBut _ _ D.TOi1.symm (e4.extBut _ _ D.i12 (e3.extBut _ _ D.TOi1.symm e)))) (s2.go fun o e => up _ o D.i2z (e5.extBut _ _ D.TOi2.symm e)) T8 fun c o c1 c2 c3 c4 e => up c o c1 (up5 c o c1 c2 c3 c4 e)
/-- the tuple given out last still stands: a new one is made -/
theorem next_kept {T : Addr} {f : Bool} {Q : Value → Shared → Prop} (D : ZipApart z TI TO i1 i2 l1 l2) (hz : ZipOb s.heap z TI TO (rawInt T) f) (hT : ∃ o, s.heap.get? T = some o) (hI : IsPair s.heap TI (.ref i1) (.ref i2))
    (h1 : Src s.heap t1 i1 l1 k1) (h2 : Src s.heap t2 i2 l2 k2) (q1 : Sq s.heap t1 l1 xs) (q2 : Sq s.heap t2 l2 ys) (hx : xs[k1]? = some x) (hy : ys[k2]? = some y)
    (k : ∀ h', ZipOb h' z TI TO (rawInt T) true → Src h' t1 i1 l1 (k1 + 1) → Src h' t2 i2 l2 (k2 + 1) → IsPair h' s.heap.objs.size x y →
      (∀ c o, c ≠ z → c ≠ i1 → c ≠ i2 → s.heap.get? c = some o → h'.get? c = some o) → Q (.ref s.heap.objs.size) { s with heap := h' }) :
    wpAny (model prog w) A (Builtin.«zip.__next__» ⟨[.ref z], []⟩) (fun fin s' => ∃ v, fin = .done (.ret v) ∧ Q v s') E s := by
  obtain ⟨oT, hT⟩ := hT
  show wpAny _ _ (field (.ref z) 2 >>= _) _ _ _
  refine wpAny_bind (wpAny_field hz rfl (x := .bool false) rfl ?_)
  show wpAny _ _ (field (.ref z) 3 >>= _) _ _ _
  refine wpAny_bind (wpAny_field hz rfl (x := .ref TI) rfl (wpAny_bind (wpAny_seqItems hI rfl ?_)))
  show wpAny _ _ (Builtin.SmallTypes.ownedTupleIsFree (.ref z) >>= _) _ _ _
  refine wpAny_bind ?_
  unfold Builtin.SmallTypes.ownedTupleIsFree
  refine wpAny_bind (wpAny_field hz rfl (x := rawInt T) rfl ?_)
  show wpAny _ _ (loadIfAlive ((T : Int)).toNat >>= _) _ _ _
  rw [Int.toNat_natCast]
  refine wpAny_bind (alive_ok hT ?_)
  show wpAny _ _ (field (.ref z) 1 >>= _) _ _ _
  refine wpAny_bind (wpAny_field hz rfl (x := .bool f) rfl ?_)
  refine L2.thn (Q := fun c s' => c = false ∧ ∃ g1, s' = { s with heap := g1 } ∧ ZipOb g1 z TI TO (rawInt T) true ∧ (∀ b o, b ≠ z → s.heap.get? b = some o → g1.get? b = some o) ∧ g1.objs.size = s.heap.objs.size) ?_ ?_
  · cases f with
    | true => exact wpAny_pure ⟨rfl, s.heap, rfl, hz, fun _ _ _ e => e, rfl⟩
    | false =>
      show wpAny _ _ (setField (.ref z) 1 (.bool true) >>= _) _ _ _
      exact wpAny_bind (wpAny_setField_rec hz (by simp) fun g1 z1 e1 => wpAny_pure ⟨rfl, g1, rfl, z1, fun b o hb e => e1.extBut _ _ hb e, e1.1⟩)
  · rintro c s' ⟨rfl, g1, rfl, z1, e1, n1⟩
    simp only [Bool.false_eq_true, if_false, List.forIn_toArray, List.forIn_cons, List.forIn_nil]
    refine wpAny_bind (wpAny_bind (wpAny_bind (wpAny_holding ?_)))
    show wpAny _ _ (Builtin.SmallTypes.nextOf (.ref i1) >>= _) _ _ _
    refine wpAny_bind (draw_item (h1.go fun o e => e1 _ o D.i1z e) (q1.go fun o e => e1 _ o D.l1z e) hx fun g2 s1 e2 => wpAny_pure (wpAny_pure ?_))
    refine wpAny_bind (wpAny_bind (wpAny_holding ?_))
    show wpAny _ _ (Builtin.SmallTypes.nextOf (.ref i2) >>= _) _ _ _
    refine wpAny_bind (draw_item (h2.go fun o e => e2.extBut _ _ D.i12.symm (e1 _ o D.i2z e)) (q2.go fun o e => e2.extBut _ _ D.l2i1 (e1 _ o D.l2z e)) hy fun g3 s2 e3 => wpAny_pure (wpAny_pure (wpAny_pure ?_)))
    have n3 : g3.objs.size = s.heap.objs.size := by rw [e3.1, e2.1, n1]
    have up : ∀ c o, c ≠ z → c ≠ i1 → c ≠ i2 → s.heap.get? c = some o → g3.get? c = some o := fun c o c1 c2 c3 e => e3.extBut _ _ c3 (e2.extBut _ _ c2 (e1 _ o c1 e))
    refine wpAny_bind (wpAny_newTuple ?_ (by show 2 ≤ sizeLine; decide))
    show wpAny _ _ (ret (.ref g3.objs.size)) _ _ _
    rw [n3]
    have sz : ∀ v : Value, (g3.push { cls := .type "tuple", data := .seq #[x, y] }).get? s.heap.objs.size = some { cls := .type "tuple", data := .seq #[x, y] } := fun _ => by rw [← n3]; exact Heap.get?_push_size _ rfl
    exact wpAny_pure ⟨_, rfl, k _ (Heap.get?_push_of_some _ (e3.extBut _ _ D.i2z.symm (e2.extBut _ _ D.i1z.symm z1))) (s1.go fun o e => Heap.get?_push_of_some _ (e3.extBut _ _ D.i12 e)) (s2.go fun o e => Heap.get?_push_of_some _ e) (sz .none) fun c o c1 c2 c3 e => Heap.get?_push_of_some _ (up c o c1 c2 c3 e)⟩

/-- one of the two has ended -/
theorem next_end {f0 : Value} {f : Bool} {Q : PySem.Fin → Shared → Prop} (hh : A.handled = none) (D : ZipApart z TI TO i1 i2 l1 l2) (hz : ZipOb s.heap z TI TO f0 f) (hf : (f0 = .none ∧ f = false) ∨ ∃ T o, f0 = rawInt (T : Addr) ∧ s.heap.get? T = some o) (hI : IsPair s.heap TI (.ref i1) (.ref i2)) (hO : IsPair s.heap TO a b)
    (h1 : Src s.heap t1 i1 l1 k1) (h2 : Src s.heap t2 i2 l2 k2) (q1 : Sq s.heap t1 l1 xs) (q2 : Sq s.heap t2 l2 ys) (he : xs[k1]? = none ∨ ys[k2]? = none)
    (k : ∀ h' e, (∀ c o, c ≠ z → c ≠ TO → c ≠ i1 → c ≠ i2 → s.heap.get? c = some o → h'.get? c = some o) → (∃ o, h'.get? e = some o ∧ o.cls = .type "StopIteration") → E (.ref e) { s with heap := h' }) :
    wpAny (model prog w) A (Builtin.«zip.__next__» ⟨[.ref z], []⟩) Q E s := by
  show wpAny _ _ (field (.ref z) 2 >>= _) _ _ _
  refine wpAny_bind (wpAny_field hz rfl (x := .bool false) rfl ?_)
  show wpAny _ _ (field (.ref z) 3 >>= _) _ _ _
  refine wpAny_bind (wpAny_field hz rfl (x := .ref TI) rfl (wpAny_bind (wpAny_seqItems hI rfl ?_)))
  show wpAny _ _ (Builtin.SmallTypes.ownedTupleIsFree (.ref z) >>= _) _ _ _
  refine wpAny_bind ?_
  unfold Builtin.SmallTypes.ownedTupleIsFree
  rcases hf with ⟨rfl, rfl⟩ | ⟨T, oT, rfl, hT⟩
  · refine wpAny_bind (wpAny_field hz rfl (x := .none) rfl (wpAny_pure ?_))
    simp only [if_true]
    refine wpAny_bind (wpAny_rule (wpAny_bind (wpAny_field hz rfl (x := .ref TO) rfl ?_)))
    refine wpAny_bind (wpAny_setField_rec hz (by simp) fun g1 z1 e1 => wpAny_bind ?_)
    simp only [List.zipIdx_cons, List.zipIdx_nil, List.forIn_cons, List.forIn_nil]
    refine wpAny_bind (wpAny_bind (wpAny_onRaise ?_))
    show wpAny _ _ (Builtin.SmallTypes.nextOf (.ref i1) >>= _) _ _ _
    cases hx : xs[k1]? with
    | none =>
      refine wpAny_bind (draw_end hh (h1.go fun o e => e1.extBut _ _ D.i1z e) (q1.go fun o e => e1.extBut _ _ D.l1z e) hx fun g2 e e2 ⟨oe, he1, he2⟩ => ?_)
      have z2 : ZipOb g2 z TI TO .ellipsis false := e2 _ _ D.i1z.symm z1
      have ne : e ≠ z := fun q => by subst q; rw [show g2.get? e = _ from z2] at he1; cases he1; simp at he2
      exact wpAny_setField_rec z2 (by simp) fun g3 _ e3 => k g3 e (fun c o c1 _ c3 _ q => e3.extBut _ _ c1 (e2 _ _ c3 (e1.extBut _ _ c1 q))) ⟨oe, e3.extBut _ _ ne he1, he2⟩
    | some x =>
      have hy : ys[k2]? = none := he.resolve_left (by rw [hx]; exact fun q => by cases q)
      refine wpAny_bind (draw_item (h1.go fun o e => e1.extBut _ _ D.i1z e) (q1.go fun o e => e1.extBut _ _ D.l1z e) hx fun g2 s1 e2 => wpAny_pure ?_)
      have o2 : IsPair g2 TO a b := e2.extBut _ _ D.TOi1 (e1.extBut _ _ D.TOz hO)
      refine wpAny_bind (wpAny_seqItems o2 rfl (wpAny_bind (wpAny_updateSeq_pair o2 fun g3 o3 e3 => wpAny_bind (wpAny_letGo (wpAny_pure ?_)))))
      have up3 : ∀ c o, c ≠ z → c ≠ TO → c ≠ i1 → s.heap.get? c = some o → g3.get? c = some o := fun c o c1 c2 c3 e => e3.extBut _ _ c2 (e2.extBut _ _ c3 (e1.extBut _ _ c1 e))
      refine wpAny_bind (wpAny_bind (wpAny_onRaise ?_))
      show wpAny _ _ (Builtin.SmallTypes.nextOf (.ref i2) >>= _) _ _ _
      refine wpAny_bind (draw_end hh (h2.go fun o e => up3 _ o D.i2z D.TOi2.symm D.i12.symm e) (q2.go fun o e => up3 _ o D.l2z D.l2TO D.l2i1 e) hy fun g4 e e4 ⟨oe, he1, he2⟩ => ?_)
      have z4 : ZipOb g4 z TI TO .ellipsis false := e4 _ _ D.i2z.symm (e3.extBut _ _ D.TOz.symm (e2.extBut _ _ D.i1z.symm z1))
      have ne : e ≠ z := fun q => by subst q; rw [show g4.get? e = _ from z4] at he1; cases he1; simp at he2
      exact wpAny_setField_rec z4 (by simp) fun g5 _ e5 => k g5 e (fun c o c1 c2 c3 c4 q => e5.extBut _ _ c1 (e4 _ _ c4 (up3 c o c1 c2 c3 q))) ⟨oe, e5.extBut _ _ ne he1, he2⟩
  · refine wpAny_bind (wpAny_field hz rfl (x := rawInt T) rfl ?_)
    show wpAny _ _ (loadIfAlive ((T : Int)).toNat >>= _) _ _ _
    rw [Int.toNat_natCast]
    refine wpAny_bind (alive_ok hT ?_)
    show wpAny _ _ (field (.ref z) 1 >>= _) _ _ _
    refine wpAny_bind (wpAny_field hz rfl (x := .bool f) rfl ?_)
    refine L2.thn (Q := fun c s' => c = false ∧ ∃ g1, s' = { s with heap := g1 } ∧ (∀ b o, b ≠ z → s.heap.get? b = some o → g1.get? b = some o)) ?_ ?_
    · cases f with
      | true => exact wpAny_pure ⟨rfl, s.heap, rfl, fun _ _ _ e => e⟩
      | false =>
        show wpAny _ _ (setField (.ref z) 1 (.bool true) >>= _) _ _ _
        exact wpAny_bind (wpAny_setField_rec hz (by simp) fun g1 z1 e1 => wpAny_pure ⟨rfl, g1, rfl, fun b o hb e => e1.extBut _ _ hb e⟩)
    · rintro c s' ⟨rfl, g1, rfl, e1⟩
      simp only [Bool.false_eq_true, if_false, List.forIn_toArray, List.forIn_cons, List.forIn_nil]
      refine wpAny_bind (wpAny_bind (wpAny_bind (wpAny_holding ?_)))
      show wpAny _ _ (Builtin.SmallTypes.nextOf (.ref i1) >>= _) _ _ _
      cases hx : xs[k1]? with
      | none => exact wpAny_bind (draw_end hh (h1.go fun o e => e1 _ o D.i1z e) (q1.go fun o e => e1 _ o D.l1z e) hx fun g2 e e2 he' => k g2 e (fun c o c1 _ c3 _ q => e2 _ _ c3 (e1 _ _ c1 q)) he')
      | some x =>
        have hy : ys[k2]? = none := he.resolve_left (by rw [hx]; exact fun q => by cases q)
        refine wpAny_bind (draw_item (h1.go fun o e => e1 _ o D.i1z e) (q1.go fun o e => e1 _ o D.l1z e) hx fun g2 s1 e2 => wpAny_pure (wpAny_pure ?_))
        refine wpAny_bind (wpAny_bind (wpAny_holding ?_))
        show wpAny _ _ (Builtin.SmallTypes.nextOf (.ref i2) >>= _) _ _ _
        exact wpAny_bind (draw_end hh (h2.go fun o e => e2.extBut _ _ D.i12.symm (e1 _ o D.i2z e)) (q2.go fun o e => e2.extBut _ _ D.l2i1 (e1 _ o D.l2z e)) hy fun g3 e e3 he' => k g3 e (fun c o c1 _ c3 c4 q => e3 _ _ c4 (e2.extBut _ _ c3 (e1 _ _ c1 q))) he')

/-! pyNext -/
theorem py_of {Q : Option Value → Shared → Prop} (hz : ∃ o, s.heap.get? z = some o ∧ o.cls = .type "zip")
    (h : wpAny (model prog w) A.in1 (Builtin.«zip.__next__» ⟨[.ref z], []⟩) (fun fin s' => ∃ v, fin = .done (.ret v) ∧ Q (some v) s') (fun e s' => ∃ c o, e = .ref c ∧ s'.heap.get? c = some o ∧ o.cls = .type "StopIteration" ∧ Q none s') s) :
    wpAny (model prog w) A (pyNext (.ref z)) Q E s := by
  have hT : s.TypeIs (.ref z) "zip" := hz
  unfold pyNext
  refine wpAny_bind (wpAny_attempt (wpAny_callSpecial?_slot (name := Str.ofString "__next__") hT F.slot_zip_next (wpAny_call_entry F.slot_zip_next hT F.entry_zip_next (wpAny_mono h ?_ ?_) (F.args_zip_next_1 _))))
  · rintro fin s' ⟨v, rfl, q⟩
    exact ⟨v, rfl, wpAny_pure q⟩
  · rintro e s' ⟨c, o, rfl, ho, hc, q⟩
    exact wpAny_bind (wpAny_isInstance (T := "StopIteration") (b := true) ⟨o, ho, hc⟩ isSubtype_stop (wpAny_pure q))
end
end

/-! ### zip(a, b) is made -/
def itOb (tp : Bool) (l : Addr) : Obj := match tp with
  | true => { cls := .type "tuple_iterator", data := .fields #[.ref l, .int 0 0] }
  | false => { cls := .type "list_iterator", data := .fields #[.ref l, .int 0 0] }
def mk2 (h : Heap) (t1 t2 : Bool) (l1 l2 : Addr) : Heap := (h.push (itOb t1 l1)).push (itOb t2 l2)
def mk3 (h : Heap) (t1 t2 : Bool) (l1 l2 : Addr) : Heap := (mk2 h t1 t2 l1 l2).push { cls := .type "tuple", data := .seq #[.ref h.objs.size, .ref (h.push (itOb t1 l1)).objs.size] }
def mk4 (h : Heap) (t1 t2 : Bool) (l1 l2 : Addr) : Heap := (mk3 h t1 t2 l1 l2).push { cls := .type "tuple", data := .seq #[.none, .none] }
def mk5 (h : Heap) (t1 t2 : Bool) (l1 l2 : Addr) : Heap := (mk4 h t1 t2 l1 l2).push { cls := .type "zip", data := .fields #[.none, .bool false, .bool false, .ref (mk2 h t1 t2 l1 l2).objs.size, .ref (mk3 h t1 t2 l1 l2).objs.size] }
theorem made_tl (l1 l2 : Addr) (xs ys : Array Value) : Meets (Builtin.«zip.__new__» ⟨[.type "zip", .ref l1, .ref l2], []⟩) (fun _ R s => s.heap.IsTuple l1 xs ∧ s.heap.IsList l2 ys ∧
    R (.ok (.ret (.ref (mk4 s.heap true false l1 l2).objs.size))) { s with heap := mk5 s.heap true false l1 l2 }) := .of_wp fun prog w A R s h => by
  obtain ⟨hp, g, d, tk, os⟩ := s
  obtain ⟨hl1, hl2, h⟩ := h
  have hsub := sub_zip
  have hA : Heap.IsTuple (Shared.heap ⟨hp, g, d, tk, os⟩) l1 xs := hl1
  have hB : Heap.IsList (Shared.heap ⟨hp.push { cls := .type "tuple_iterator", data := .fields #[.ref l1, .int 0 0] }, g, d, tk, os⟩) l2 ys := Heap.IsList.push hl2 _
  wp_walk using wpAny_pyIter_tuple hA, wpAny_pyIter_list hB
  exact ⟨_, rfl, h⟩
theorem made_lt (l1 l2 : Addr) (xs ys : Array Value) : Meets (Builtin.«zip.__new__» ⟨[.type "zip", .ref l1, .ref l2], []⟩) (fun _ R s => s.heap.IsList l1 xs ∧ s.heap.IsTuple l2 ys ∧
    R (.ok (.ret (.ref (mk4 s.heap false true l1 l2).objs.size))) { s with heap := mk5 s.heap false true l1 l2 }) := .of_wp fun prog w A R s h => by
  obtain ⟨hp, g, d, tk, os⟩ := s
  obtain ⟨hl1, hl2, h⟩ := h
  have hsub := sub_zip
  have hA : Heap.IsList (Shared.heap ⟨hp, g, d, tk, os⟩) l1 xs := hl1
  have hB : Heap.IsTuple (Shared.heap ⟨hp.push { cls := .type "list_iterator", data := .fields #[.ref l1, .int 0 0] }, g, d, tk, os⟩) l2 ys := Heap.IsTuple.push hl2 _
  wp_walk using wpAny_pyIter_list hA, wpAny_pyIter_tuple hB
  exact ⟨_, rfl, h⟩
theorem src_new {h : Heap} {tp : Bool} {l : Addr} : Src (h.push (itOb tp l)) tp h.objs.size l 0 := by
  cases tp with
  | true => exact ⟨_, Heap.get?_push_size _ rfl, rfl, rfl⟩
  | false => exact ⟨_, Heap.get?_push_size _ rfl, rfl, rfl⟩
/-- what the new zip object leaves -/
structure New (h h' : Heap) (t1 t2 : Bool) (l1 l2 : Addr) : Prop where
  zo : ZipOb h' (h.objs.size + 4) (h.objs.size + 2) (h.objs.size + 3) .none false
  ti : IsPair h' (h.objs.size + 2) (.ref h.objs.size) (.ref (h.objs.size + 1))
  to : IsPair h' (h.objs.size + 3) .none .none
  s1 : Src h' t1 h.objs.size l1 0
  s2 : Src h' t2 (h.objs.size + 1) l2 0
  up : ∀ c o, h.get? c = some o → h'.get? c = some o
theorem new_ok {h : Heap} {t1 t2 : Bool} {l1 l2 : Addr} : (mk4 h t1 t2 l1 l2).objs.size = h.objs.size + 4 ∧ New h (mk5 h t1 t2 l1 l2) t1 t2 l1 l2 := by
  have z1 : (h.push (itOb t1 l1)).objs.size = h.objs.size + 1 := Heap.size_push ..
  have z2 : (mk2 h t1 t2 l1 l2).objs.size = h.objs.size + 2 := by unfold mk2; rw [Heap.size_push, z1]
  have z3 : (mk3 h t1 t2 l1 l2).objs.size = h.objs.size + 3 := by unfold mk3; rw [Heap.size_push, z2]
  have z4 : (mk4 h t1 t2 l1 l2).objs.size = h.objs.size + 4 := by unfold mk4; rw [Heap.size_push, z3]
  have g5 : (mk5 h t1 t2 l1 l2).get? (mk4 h t1 t2 l1 l2).objs.size = some { cls := .type "zip", data := .fields #[.none, .bool false, .bool false, .ref (mk2 h t1 t2 l1 l2).objs.size, .ref (mk3 h t1 t2 l1 l2).objs.size] } := Heap.get?_push_size _ rfl
  have g4 : (mk5 h t1 t2 l1 l2).get? (mk3 h t1 t2 l1 l2).objs.size = some { cls := .type "tuple", data := .seq #[.none, .none] } := Heap.get?_push_of_some _ (Heap.get?_push_size _ rfl)
  have g3 : (mk5 h t1 t2 l1 l2).get? (mk2 h t1 t2 l1 l2).objs.size = some { cls := .type "tuple", data := .seq #[.ref h.objs.size, .ref (h.push (itOb t1 l1)).objs.size] } := Heap.get?_push_of_some _ (Heap.get?_push_of_some _ (Heap.get?_push_size _ rfl))
  rw [z2, z3, z4] at g5
  rw [z1, z2] at g3
  rw [z3] at g4
  refine ⟨z4, g5, g3, g4, src_new.go fun o e => ?_, ?_, fun c o e => ?_⟩
  · exact Heap.get?_push_of_some _ (Heap.get?_push_of_some _ (Heap.get?_push_of_some _ (Heap.get?_push_of_some _ e)))
  · rw [← z1]
    exact src_new.go fun o e => Heap.get?_push_of_some _ (Heap.get?_push_of_some _ (Heap.get?_push_of_some _ e))
  · exact Heap.get?_push_of_some _ (Heap.get?_push_of_some _ (Heap.get?_push_of_some _ (Heap.get?_push_of_some _ (Heap.get?_push_of_some _ e))))
section
variable {prog : Program} {w : World} {A : Around} {E : Value → Shared → Prop} {s : Shared}
theorem call_tl {l1 l2 : Addr} {xs ys : Array Value} {Q : Value → Shared → Prop} (h1 : s.heap.IsTuple l1 xs) (h2 : s.heap.IsList l2 ys) (k : ∀ h', New s.heap h' true false l1 l2 → Q (.ref (s.heap.objs.size + 4)) { s with heap := h' }) :
    wpAny (model prog w) A (call (.type "zip") [.ref l1, .ref l2]) Q E s := by
  refine callType_new F.called_zip (by decide) (F.typeCall_zip_2 _ _) (F.newCall_zip_2 _ _) (fun obj => F.args_object_init_3 obj _ _) F.entry_zip_new (made_tl l1 l2 xs ys) ⟨h1, h2, ?_⟩
  obtain ⟨e, n⟩ := new_ok (h := s.heap) (t1 := true) (t2 := false) (l1 := l1) (l2 := l2)
  show _ ∧ _
  rw [e]
  exact ⟨⟨_, n.zo, rfl⟩, k _ n⟩
theorem call_lt {l1 l2 : Addr} {xs ys : Array Value} {Q : Value → Shared → Prop} (h1 : s.heap.IsList l1 xs) (h2 : s.heap.IsTuple l2 ys) (k : ∀ h', New s.heap h' false true l1 l2 → Q (.ref (s.heap.objs.size + 4)) { s with heap := h' }) :
    wpAny (model prog w) A (call (.type "zip") [.ref l1, .ref l2]) Q E s := by
  refine callType_new F.called_zip (by decide) (F.typeCall_zip_2 _ _) (F.newCall_zip_2 _ _) (fun obj => F.args_object_init_3 obj _ _) F.entry_zip_new (made_lt l1 l2 xs ys) ⟨h1, h2, ?_⟩
  obtain ⟨e, n⟩ := new_ok (h := s.heap) (t1 := false) (t2 := true) (l1 := l1) (l2 := l2)
  show _ ∧ _
  rw [e]
  exact ⟨⟨_, n.zo, rfl⟩, k _ n⟩
end
end Gz

set_option Elab.async false
set_option linter.all false
set_option maxRecDepth 100000
set_option maxHeartbeats 4000000
/-! GsZip2: for a, b in zip(a tuple, a list); list(zip(a list, a tuple)) of at most two. -/
namespace Gs
open PySem PySem.Spec PyProof.Rows L2 Evl

/-- the tuple at a and the list at b, turn by turn, in new pairs -/
def Itm (K : PySem.W.Frag) (a b : Addr) : It where
  go := fun i H => ∃ (xs ys : List V) (x y : V), SqT K H a xs ∧ SqL K H b ys ∧ xs[i]? = some x ∧ ys[i]? = some y
  yld := fun i H v H' => ∃ T x y, v = .ref T ∧ H T = none ∧ H' = upd H T (.tup [x, y]) ∧ (∀ xs, SqT K H a xs → xs[i]? = some x) ∧ ∀ ys, SqL K H b ys → ys[i]? = some y
  stop := fun i H => ∃ xs ys : List V, SqT K H a xs ∧ SqL K H b ys ∧ (xs.length ≤ i ∨ ys.length ≤ i)
/-- its own records at the turn i -/
def ZSt (a b z TI TO i1 i2 : Addr) (i : Nat) (h : Heap) : Prop := Gz.ZipOb h z TI TO .none false ∧ IsPair h TI (.ref i1) (.ref i2) ∧ (∃ x y, IsPair h TO x y) ∧ Gz.Src h true i1 a i ∧ Gz.Src h false i2 b i
theorem turn_zipM {P : Program} {w : World} {K : PySem.W.Frag} {elts : List Expr} {kk : Nat} {tpos : Pos} {a b z TI TO i1 i2 : Addr} (D : ZipApart z TI TO i1 i2 a b) : Turn P w K (.Tuple elts kk tpos) (Itm K a b) [z, TI, TO, i1, i2] z (ZSt a b z TI TO i1 i2) where
  mem := List.mem_cons_self
  obj := fun i h st c hc => by
    obtain ⟨hz, hI, ⟨x, y, hO⟩, h1, h2⟩ := st
    simp only [List.mem_cons, List.not_mem_nil, or_false] at hc
    rcases hc with rfl | rfl | rfl | rfl | rfl
    · exact ⟨_, hz, fun v q => nomatch q⟩
    · exact ⟨_, hI, fun v q => nomatch q⟩
    · exact ⟨_, hO, fun v q => nomatch q⟩
    · exact h1.obj
    · exact h2.obj
  keep := fun i h h' st k => by
    obtain ⟨hz, hI, ⟨x, y, hO⟩, h1, h2⟩ := st
    exact ⟨k z (by simp) _ hz, k TI (by simp) _ hI, ⟨x, y, k TO (by simp) _ hO⟩, h1.go fun o q => k i1 (by simp) o q, h2.go fun o q => k i2 (by simp) o q⟩
  item := by
    intro X hP hw hK hc i pins s σ H E I hf st hg
    subst hP hw hK
    obtain ⟨hz, hI, ⟨x0, y0, hO⟩, h1, h2⟩ := st
    obtain ⟨xs, ys, x, y, hqx, hqy, hx, hy⟩ := hg
    obtain ⟨its, rv, p, _⟩ := I.tuple hqx
    obtain ⟨its2, rv2, p2, _⟩ := I.list hqy
    obtain ⟨u, hu, ru⟩ := rv.get hx
    obtain ⟨u2, hu2, ru2⟩ := rv2.get hy
    refine Gz.py_of ⟨_, hz, rfl⟩ (Gz.next_free (t1 := true) (t2 := false) (xs := its.toArray) (ys := its2.toArray) (x := u) (y := u2) D hz hI hO h1 h2 (show s.heap.IsTuple a its.toArray from p) p2.isList (by simpa using hu) (by simpa using hu2) fun h' z' O' g1 g2 hT hk => ?_)
    refine ⟨_, rfl, wpAny_letOwnedTupleGo_zip (s := { s with heap := h' }) z' fun h2' z2 sb => ?_⟩
    have hzl : z < s.heap.objs.size := Heap.lt_size hz
    have hT2 : h2'.get? s.heap.objs.size = some { cls := .type "tuple", data := .seq #[u, u2] } := (sb.2 _ (Nat.ne_of_gt hzl)).trans hT
    have new : ObjOk X.prog X.w (upd H s.heap.objs.size (.tup [x, y])) h2' s.heap.objs.size (.tup [x, y]) := ⟨by show 2 ≤ sizeLine; decide, [u, u2], .cons ru (.cons ru2 .nil), ⟨_, hT2, rfl, _, rfl⟩⟩
    have I1 : Inv X pins σ (upd H s.heap.objs.size (.tup [x, y])) { s with heap := h2' } :=
      I.turnedNew (t' := s.toks) (ch := [z, TI, TO, i1, i2]) (fun c o hb q => (sb.2 c (fun e => hb (by simp [e]))).trans (hk c o (fun e => hb (by simp [e])) (fun e => hb (by simp [e])) (fun e => hb (by simp [e])) (fun e => hb (by simp [e])) q)) hf (Nat.le_refl _) new
    refine ⟨.ref s.heap.objs.size, _, I1, rfl, ⟨_, x, y, rfl, I.hok.fresh (Nat.le_refl _), rfl, fun l hl => by rw [I.tuple_inj hl hqx]; exact hx, fun l hl => by rw [I.list_inj hl hqy]; exact hy⟩, ⟨z2, ?_, ⟨u, u2, ?_⟩, ?_, ?_⟩, fun c hcm => ?_⟩
    · exact (sb.2 _ D.TIz).trans (hk _ _ D.TIz D.TITO D.TIi1 D.TIi2 hI)
    · exact (sb.2 _ D.TOz).trans O'
    · exact g1.go fun o q => (sb.2 _ D.i1z).trans q
    · exact g2.go fun o q => (sb.2 _ D.i2z).trans q
    · have hlt : c < s.heap.objs.size := by
        simp only [List.mem_cons, List.not_mem_nil, or_false] at hcm
        rcases hcm with rfl | rfl | rfl | rfl | rfl
        · exact hzl
        · exact Heap.lt_size hI
        · exact Heap.lt_size hO
        · obtain ⟨_, e, _⟩ := h1.obj; exact Heap.lt_size e
        · obtain ⟨_, e, _⟩ := h2.obj; exact Heap.lt_size e
      rw [upd_ne (Nat.ne_of_lt hlt)]
      exact (hf c hcm).1
  done := by
    intro X hP hw hK hc i pins s σ H E I hf st hg
    subst hP hw hK
    obtain ⟨hz, hI, ⟨x0, y0, hO⟩, h1, h2⟩ := st
    obtain ⟨xs, ys, hqx, hqy, hend⟩ := hg
    obtain ⟨its, rv, p, _⟩ := I.tuple hqx
    obtain ⟨its2, rv2, p2, _⟩ := I.list hqy
    have l1 := rv.length
    have l2 := rv2.length
    have he : its.toArray[i]? = none ∨ its2.toArray[i]? = none := by
      rcases hend with q | q
      · exact .inl (by simp; omega)
      · exact .inr (by simp; omega)
    refine Gz.py_of ⟨_, hz, rfl⟩ (Gz.next_end (t1 := true) (t2 := false) (xs := its.toArray) (ys := its2.toArray) (I.ok.hd hc) D hz (.inl ⟨rfl, rfl⟩) hI hO h1 h2 (show s.heap.IsTuple a its.toArray from p) p2.isList he fun h' e hk ⟨o, ho, hcl⟩ => ⟨e, o, rfl, ho, hcl, rfl, ?_⟩)
    exact I.turnedL (t' := s.toks) (ch := [z, TI, TO, i1, i2]) (fun c o hb q => hk c o (fun e => hb (by simp [e])) (fun e => hb (by simp [e])) (fun e => hb (by simp [e])) (fun e => hb (by simp [e])) q) hf
  self := fun A i s Q E st h => wpAny_pyIter_zip (f0 := .none) st.1 h

def iZipM (K : PySem.W.Frag) (ta : TA) : TI := fun σ H R => ta σ H fun vs H1 => ∃ a b xs ys, vs = [.ref a, .ref b] ∧ SqT K H1 a xs ∧ SqL K H1 b ys ∧ R (Itm K a b) H1
theorem apart5 {a b : Addr} (n : Nat) (ha : a < n) (hb : b < n) : ZipApart (n + 4) (n + 2) (n + 3) n (n + 1) a b := PySem.W.ktu_apart n a b ha hb
theorem pi_zipM {X : Cx} {e e2 : Expr} {ta : TA} {p pos tpos : Pos} {elts : List Expr} {kk : Nat} (hg : Gl X "zip") (hm : X.mg "zip" = none) (ha : PA X [e, e2] ta) (hs : starEach [e, e2] X.env = (false, eval e X.env) :: starEach [e2] X.env := by rfl)
    (hpl : (backTo pos (starEach [e2] X.env)).any (·.1) = false := by rfl) : PI X (.Tuple elts kk tpos) (.Call (.Name "zip" p) [e, e2] [] pos) (iZipM X.K ta) := by
  refine ⟨fun pins s σ H R I h => ?_⟩
  refine Call_ (ld_blt I hg hm PyProof.Rows.boot_zip (PyProof.Rows.callWith_type1 (thn (ha.run pos pins s σ H _ I h) fun us s1 ⟨vs, H1, I1, r1, q1⟩ => ?_) hs hpl))
  obtain ⟨a, b, xs, ys, rfl, hqx, hqy, q⟩ := q1
  obtain ⟨u1, u2, rfl, r, r'⟩ := Vals.two r1
  cases r
  cases r'
  obtain ⟨its, rv, p1, _⟩ := I1.tuple hqx
  obtain ⟨its2, rv2, p2, _⟩ := I1.list hqy
  obtain ⟨o1, ho1, _⟩ := id p1
  refine Gz.call_tl (show s1.heap.IsTuple a its.toArray from p1) p2.isList fun h' N => wpAny_pyIter_zip (f0 := .none) N.zo ?_
  have I2 : Inv X pins σ H1 { s1 with heap := h' } := I1.kept (t' := s1.toks) N.up
  refine ⟨s1.heap.objs.size + 4, [s1.heap.objs.size + 4, s1.heap.objs.size + 2, s1.heap.objs.size + 3, s1.heap.objs.size, s1.heap.objs.size + 1], _, _, H1, rfl, I2, turn_zipM (apart5 _ (Heap.lt_size ho1) p2.lt), ⟨N.zo, N.ti, ⟨_, _, N.to⟩, N.s1, N.s2⟩, fun c hc => ?_, q⟩
  have hle : s1.heap.objs.size ≤ c := by
    simp only [List.mem_cons, List.not_mem_nil, or_false] at hc
    rcases hc with rfl | rfl | rfl | rfl | rfl <;> omega
  exact I1.fpOk hle (I1.hok.fresh hle)
theorem walk_zipM {K : PySem.W.Frag} {a b : Addr} {xs ys : List V} {n : Nat} (hn : n = min xs.length ys.length) : Walk (Itm K a b) n (fun H => SqT K H a xs ∧ SqL K H b ys) (YPair (fun i => xs[i]?) (fun i => ys[i]?)) where
  goes := fun i H hi h => by
    have h1 : i < xs.length := by omega
    have h2 : i < ys.length := by omega
    exact ⟨xs, ys, xs[i], ys[i], h.1, h.2, List.getElem?_eq_getElem h1, List.getElem?_eq_getElem h2⟩
  stops := fun H h => ⟨xs, ys, h.1, h.2, by omega⟩
  yields := fun i H x H' hi h y => by
    obtain ⟨T, u, v, e1, e2, e3, e4, e5⟩ := y
    exact ⟨T, u, v, e1, e2, e3, e4 _ h.1, e5 _ h.2⟩
end Gs

set_option Elab.async false
set_option linter.all false
set_option maxRecDepth 100000
set_option maxHeartbeats 4000000
/-! GsZip3: list(zip(a list, a tuple)). -/
namespace Gz
open PySem
open PySem.Sem (wp)
section
variable {prog : Program} {w : World} {A : Around} {E : Value → Shared → Prop} {s : Shared}
variable {z TI TO i1 i2 l1 l2 : Addr} {t1 t2 : Bool} {xs ys : Array Value} {x y : Value}
/-- the own tuple is free, or the one given out last stands -/
def Hand (h : Heap) (z TI TO i1 i2 : Addr) : Prop := ∃ f0 f, ZipOb h z TI TO f0 f ∧ ((f0 = .none ∧ f = false) ∨ ∃ T o, f0 = rawInt (T : Addr) ∧ h.get? T = some o ∧ T ≠ z ∧ T ≠ TO ∧ T ≠ i1 ∧ T ≠ i2)
structure At (h : Heap) (t1 t2 : Bool) (z TI TO i1 i2 l1 l2 : Addr) (k : Nat) : Prop where
  ha : Hand h z TI TO i1 i2
  ti : IsPair h TI (.ref i1) (.ref i2)
  to : ∃ a b, IsPair h TO a b
  s1 : Src h t1 i1 l1 k
  s2 : Src h t2 i2 l2 k
theorem At.go {h h' : Heap} {k : Nat} (x : At h t1 t2 z TI TO i1 i2 l1 l2 k) (up : ∀ b o, h.get? b = some o → b ≠ S → h'.get? b = some o) (S0 : z ≠ S ∧ TI ≠ S ∧ TO ≠ S ∧ i1 ≠ S ∧ i2 ≠ S) (al : ∀ b o, h.get? b = some o → ∃ o', h'.get? b = some o') : At h' t1 t2 z TI TO i1 i2 l1 l2 k := by
  obtain ⟨⟨f0, f, hz, hf⟩, a2, ⟨a, b, a3⟩, a4, a5⟩ := x
  obtain ⟨n1, n2, n3, n4, n5⟩ := S0
  refine ⟨⟨f0, f, up _ _ hz n1, ?_⟩, up _ _ a2 n2, ⟨a, b, up _ _ a3 n3⟩, a4.go fun o e => up _ _ e n4, a5.go fun o e => up _ _ e n5⟩
  rcases hf with hf | ⟨T, o, e, hT, r⟩
  · exact .inl hf
  · obtain ⟨o', ho'⟩ := al T o hT
    exact .inr ⟨T, o', e, ho', r⟩
theorem next_any {k : Nat} {Q : Option Value → Shared → Prop} (D : ZipApart z TI TO i1 i2 l1 l2) (a : At s.heap t1 t2 z TI TO i1 i2 l1 l2 k) (q1 : Sq s.heap t1 l1 xs) (q2 : Sq s.heap t2 l2 ys) (hx : xs[k]? = some x) (hy : ys[k]? = some y)
    (q : ∀ h', At h' t1 t2 z TI TO i1 i2 l1 l2 (k + 1) → IsPair h' s.heap.objs.size x y → (∀ c o, c ≠ z → c ≠ TO → c ≠ i1 → c ≠ i2 → s.heap.get? c = some o → h'.get? c = some o) → Q (some (.ref s.heap.objs.size)) { s with heap := h' }) :
    wpAny (model prog w) A (pyNext (.ref z)) Q E s := by
  obtain ⟨⟨f0, f, hz, hf⟩, hI, ⟨u, v, hO⟩, h1, h2⟩ := a
  have lz : z < s.heap.objs.size := Heap.lt_size hz
  have lO : TO < s.heap.objs.size := Heap.lt_size hO
  have la : i1 < s.heap.objs.size := let ⟨_, e, _⟩ := h1.obj; Heap.lt_size e
  have lb : i2 < s.heap.objs.size := let ⟨_, e, _⟩ := h2.obj; Heap.lt_size e
  refine py_of ⟨_, hz, rfl⟩ ?_
  rcases hf with ⟨rfl, rfl⟩ | ⟨T, o, rfl, hT, n1, n2, n3, n4⟩
  · refine L2.thn (wpAny_mono (next_free (Q := fun v s' => Q (some v) s') D hz hI hO h1 h2 q1 q2 hx hy fun h' z' O' g1 g2 hP up => q h' ⟨⟨_, _, z', .inr ⟨s.heap.objs.size, _, rfl, hP, Nat.ne_of_gt lz, Nat.ne_of_gt lO, Nat.ne_of_gt la, Nat.ne_of_gt lb⟩⟩, up _ _ D.TIz D.TITO D.TIi1 D.TIi2 hI, ⟨_, _, O'⟩, g1, g2⟩ hP up) (fun _ _ r => r) (fun _ _ r => r)) fun _ _ r => r
  · refine next_kept (Q := fun v s' => Q (some v) s') D hz ⟨o, hT⟩ hI h1 h2 q1 q2 hx hy fun h' z' g1 g2 hP up => q h' ⟨⟨_, _, z', .inr ⟨T, o, rfl, up _ _ n1 n3 n4 hT, n1, n2, n3, n4⟩⟩, up _ _ D.TIz D.TIi1 D.TIi2 hI, ⟨u, v, up _ _ D.TOz D.TOi1 D.TOi2 hO⟩, g1, g2⟩ hP fun c o c1 _ c3 c4 e => up c o c1 c3 c4 e
theorem next_none {k : Nat} {Q : Option Value → Shared → Prop} (hh : A.handled = none) (D : ZipApart z TI TO i1 i2 l1 l2) (a : At s.heap t1 t2 z TI TO i1 i2 l1 l2 k) (q1 : Sq s.heap t1 l1 xs) (q2 : Sq s.heap t2 l2 ys) (he : xs[k]? = none ∨ ys[k]? = none)
    (q : ∀ h', (∀ c o, c ≠ z → c ≠ TO → c ≠ i1 → c ≠ i2 → s.heap.get? c = some o → h'.get? c = some o) → Q none { s with heap := h' }) : wpAny (model prog w) A (pyNext (.ref z)) Q E s := by
  obtain ⟨⟨f0, f, hz, hf⟩, hI, ⟨u, v, hO⟩, h1, h2⟩ := a
  exact py_of ⟨_, hz, rfl⟩ (next_end hh D hz (hf.imp id fun ⟨T, o, e, hT, _⟩ => ⟨T, o, e, hT⟩) hI hO h1 h2 q1 q2 he fun h' e up ⟨o, ho, hc⟩ => ⟨e, o, rfl, ho, hc, q h' up⟩)

theorem ne_ge {N T c : Addr} (h : N ≤ T) (h2 : c < N) : T ≠ c := Nat.ne_of_gt (Nat.lt_of_lt_of_le h2 h)
/-- pairs made so far: their addresses -/
def Prs (h : Heap) (xs ys : Array Value) (n : Nat) (Ts : List Addr) : Prop := Ts.length = n ∧ ∀ (j : Nat) (T : Addr), Ts[j]? = some T → ∃ x y, xs[j]? = some x ∧ ys[j]? = some y ∧ IsPair h T x y
theorem loop_ok {R : Result → Shared → Prop} {S N : Addr} {res : Value} {n : Nat} (hh : A.handled = none) (D : ZipApart z TI TO i1 i2 l1 l2) (hn : n = min xs.size ys.size) (hz : n ≤ 1000) (nS : z ≠ S ∧ TI ≠ S ∧ TO ≠ S ∧ i1 ≠ S ∧ i2 ≠ S ∧ l1 ≠ S ∧ l2 ≠ S) (keep : Addr → Prop) (hk : ∀ c, keep c → c ≠ z ∧ c ≠ TO ∧ c ≠ i1 ∧ c ≠ i2 ∧ c ≠ S ∧ c < N) (hl : keep l1 ∧ keep l2) :
    ∀ (m k : Nat) (s : Shared) (Ts : List Addr) (c : Nat), n - k = m → k ≤ n → N ≤ s.heap.objs.size → S < N → z < N → TO < N → i1 < N → i2 < N → At s.heap t1 t2 z TI TO i1 i2 l1 l2 k → Sq s.heap t1 l1 xs → Sq s.heap t2 l2 ys → Prs s.heap xs ys k Ts → (∀ T ∈ Ts, N ≤ T) →
      s.heap.get? S = some { cls := .type "list", dict := none, data := .seq (Ts.map Value.ref).toArray c, slots := #[] } →
      (∀ s' Ts' c', s' = { s with heap := s'.heap, toks := s'.toks } → (∀ b o, keep b → s.heap.get? b = some o → s'.heap.get? b = some o) → Prs s'.heap xs ys n Ts' → (∀ T ∈ Ts', N ≤ T) → s'.heap.get? S = some { cls := .type "list", dict := none, data := .seq (Ts'.map Value.ref).toArray c', slots := #[] } → R (.ok (.ret res)) s') →
      codeAny (model prog w) A (.builtin "list.extend.loop" ⟨[.ref S, .ref z, res], []⟩) R s := by
  obtain ⟨n1, n2, n3, n4, n5, n6, n7⟩ := nS
  have line : 1000 < sizeLine := L2.small1000 (Nat.le_refl _)
  intro m
  induction m with
  | zero =>
    intro k s Ts c hm hkn hN lS lz lO la lb a q1 q2 hP hT hS hR
    have e : k = n := by omega
    refine codeAny_builtin F.entry_extend_loop ?_
    rw [Around.under_plainId F.plain_extend_loop _]
    show wpAny _ A.in1 (pyNext (.ref z) >>= _) _ _ s
    have hend : xs[k]? = none ∨ ys[k]? = none := by
      rcases Nat.le_total xs.size ys.size with q | q
      · exact .inl (by simp; omega)
      · exact .inr (by simp; omega)
    refine wpAny_bind (next_none (t1 := t1) (t2 := t2) hh D a q1 q2 hend fun h' up => wpAny_pure ?_)
    subst e
    refine hR { s with heap := h' } Ts c rfl (fun b o hb e => ?_) ⟨hP.1, fun j T hj => ?_⟩ hT (up S _ (Ne.symm n1) (Ne.symm n3) (Ne.symm n4) (Ne.symm n5) hS)
    · obtain ⟨k1, k2, k3, k4, _⟩ := hk b hb
      exact up b o k1 k2 k3 k4 e
    · obtain ⟨x, y, e1, e2, e3⟩ := hP.2 j T hj
      have hge := hT T (List.mem_of_getElem? hj)
      exact ⟨x, y, e1, e2, up T _ (ne_ge hge lz) (ne_ge hge lO) (ne_ge hge la) (ne_ge hge lb) e3⟩
  | succ m ih =>
    intro k s Ts c hm hkn hN lS lz lO la lb a q1 q2 hP hT hS hR
    have hlt : k < n := by omega
    have hx : xs[k]? = some xs[k] := Array.getElem?_eq_getElem (by omega)
    have hy : ys[k]? = some ys[k] := Array.getElem?_eq_getElem (by omega)
    refine codeAny_builtin F.entry_extend_loop ?_
    rw [Around.under_plainId F.plain_extend_loop _]
    show wpAny _ A.in1 (pyNext (.ref z) >>= _) _ _ s
    refine wpAny_bind (next_any (t1 := t1) (t2 := t2) D a q1 q2 hx hy fun h' a' hp up => ?_)
    have hS' : h'.get? S = some { cls := .type "list", dict := none, data := .seq (Ts.map Value.ref).toArray c, slots := #[] } := up S _ (Ne.symm n1) (Ne.symm n3) (Ne.symm n4) (Ne.symm n5) hS
    show wpAny _ A.in1 (updateSeq S (·.push (.ref s.heap.objs.size)) >>= _) _ _ _
    have hTs : Ts.length = k := hP.1
    refine wpAny_bind (wpAny_updateSeq hS' rfl (wpAny_pure ⟨plainId_quiet F.plain_extend_loop _, ?_⟩) (by simp only [List.size_toArray, List.length_map]; omega) (by simp only [Array.size_push, List.size_toArray, List.length_map]; omega))
    have oth : ∀ b o, h'.get? b = some o → b ≠ S → (h'.update S (Obj.mapSeq (·.push (Value.ref s.heap.objs.size)))).get? b = some o := fun b o e hb => (Heap.get?_update_other _ _ (Ne.symm hb)).trans e
    have hs2 : (h'.update S (Obj.mapSeq (·.push (Value.ref s.heap.objs.size)))).objs.size = h'.objs.size := (Heap.SameBut.update ..).1
    have hl' : ∀ c o, keep c → s.heap.get? c = some o → (h'.update S (Obj.mapSeq (·.push (Value.ref s.heap.objs.size)))).get? c = some o := fun c o hc e => by
      obtain ⟨k1, k2, k3, k4, k5, _⟩ := hk c hc
      exact oth c o (up c o k1 k2 k3 k4 e) k5
    have hgt : s.heap.objs.size < h'.objs.size := Heap.lt_size hp
    have hSn := Heap.get?_update_self (Obj.mapSeq (·.push (Value.ref s.heap.objs.size))) hS' rfl
    refine ih (k + 1) _ (Ts ++ [s.heap.objs.size]) (c + 1) (by omega) hlt (by rw [hs2]; exact Nat.le_trans hN (Nat.le_of_lt hgt)) lS lz lO la lb (a'.go oth ⟨n1, n2, n3, n4, n5⟩ fun b o e => ?_) (q1.go fun o e => hl' _ o hl.1 e) (q2.go fun o e => hl' _ o hl.2 e) ⟨by simp [hTs], fun j T hj => ?_⟩ (fun T hTm => ?_) ?_ (fun s' Ts' c' he hb hp' ht' hs' => hR s' Ts' c' (by rw [he]) (fun b o hbk e => hb b o hbk (hl' b o hbk e)) hp' ht' hs')
    · by_cases q : b = S
      · subst q; exact ⟨_, hSn⟩
      · exact ⟨o, oth b o e q⟩
    · rcases Nat.lt_or_ge j Ts.length with q | q
      · rw [List.getElem?_append_left q] at hj
        obtain ⟨x, y, e1, e2, e3⟩ := hP.2 j T hj
        have hge := hT T (List.mem_of_getElem? hj)
        exact ⟨x, y, e1, e2, oth T _ (up T _ (ne_ge hge lz) (ne_ge hge lO) (ne_ge hge la) (ne_ge hge lb) e3) (ne_ge hge lS)⟩
      · rw [List.getElem?_append_right q] at hj
        have hj0 : j - Ts.length = 0 := by
          rcases Nat.eq_zero_or_pos (j - Ts.length) with z | z
          · exact z
          · rw [List.getElem?_eq_none_iff.mpr (by simp; omega)] at hj
            cases hj
        rw [hj0] at hj
        have eT : s.heap.objs.size = T := by simpa using hj
        have ej : j = k := by omega
        subst eT ej
        exact ⟨_, _, hx, hy, oth _ _ hp (ne_ge hN lS)⟩
    · rcases List.mem_append.mp hTm with q | q
      · exact hT T q
      · rw [List.mem_singleton.mp q]; exact hN
    · rw [hSn]
      simp [Obj.mapSeq]
end
end Gz

namespace Gz
open PySem
section
variable {prog : Program} {w : World} {A : Around} {E : Value → Shared → Prop} {s : Shared}
theorem zip_nolen : typeLookup (.type "zip") "__len__" = pure none := by rw [typeLookup_type, builtinLookup_eq_fast]; kernel_rfl
theorem zip_nohint : typeLookup (.type "zip") "__length_hint__" = pure none := by rw [typeLookup_type, builtinLookup_eq_fast]; kernel_rfl
theorem hint_zip {r : Addr} {Q : Bool → Shared → Prop} (hT : s.TypeIs (.ref r) "zip") (h : Q true s) : wpAny (model prog w) A (Builtin.List.listLengthHint (.ref r)) Q E s := by
  unfold Builtin.List.listLengthHint
  refine wpAny_bind (wpAny_specialOf hT zip_nolen ?_)
  refine wpAny_ite_split (fun hab => absurd hab (by decide)) (fun _ => ?_)
  refine wpAny_ite_split (fun hab => absurd hab (by decide)) (fun _ => ?_)
  exact wpAny_bind (wpAny_specialOf hT zip_nohint (wpAny_pure h))
/-- what list(z) makes -/
structure Made (h h' : Heap) (S : Addr) (xs ys : Array Value) (n : Nat) (Ts : List Addr) : Prop where
  pr : Prs h' xs ys n Ts
  ge : ∀ T ∈ Ts, S < T
  ls : ∃ c, h'.get? S = some { cls := .type "list", dict := none, data := .seq (Ts.map Value.ref).toArray c, slots := #[] }
theorem list_zip {z TI TO i1 i2 l1 l2 : Addr} {t1 t2 : Bool} {xs ys : Array Value} {n : Nat} {Q : Value → Shared → Prop} {keep : Addr → Prop} (hh : A.handled = none) (D : ZipApart z TI TO i1 i2 l1 l2) (hn : n = min xs.size ys.size) (hz : n ≤ 1000)
    (hzo : ZipOb s.heap z TI TO .none false) (hI : IsPair s.heap TI (.ref i1) (.ref i2)) (hO : ∃ u v, IsPair s.heap TO u v) (h1 : Src s.heap t1 i1 l1 0) (h2 : Src s.heap t2 i2 l2 0) (q1 : Sq s.heap t1 l1 xs) (q2 : Sq s.heap t2 l2 ys) (hk : ∀ c, keep c → c ≠ z ∧ c ≠ TO ∧ c ≠ i1 ∧ c ≠ i2 ∧ c < s.heap.objs.size) (hl : keep l1 ∧ keep l2)
    (k : ∀ h' tk Ts, Made s.heap h' s.heap.objs.size xs ys n Ts → (∀ b o, keep b → s.heap.get? b = some o → h'.get? b = some o) → Q (.ref s.heap.objs.size) { s with heap := h', toks := tk }) :
    wpAny (model prog w) A (call (.type "list") [.ref z]) Q E s := by
  refine callType_codes (Q₁ := fun obj s₁ => obj = .ref s.heap.objs.size ∧ s₁ = { s with heap := s.heap.push { cls := .type "list", data := .seq #[] } }) F.called_list (F.typeCall_list_1 _) F.entry_list_init (code_list_new _ ⟨rfl, rfl⟩) fun obj s₁ h₁ => ?_
  obtain ⟨rfl, rfl⟩ := h₁
  generalize hS : s.heap.objs.size = S at *
  have hS1 : (s.heap.push { cls := .type "list", data := .seq #[] }).get? S = some { cls := .type "list", data := .seq #[] } := by rw [← hS]; exact Heap.get?_push_size _ rfl
  refine ⟨⟨_, hS1, rfl⟩, F.args_list_init_2 _ _, ?_⟩
  have up : ∀ b o, s.heap.get? b = some o → (s.heap.push { cls := .type "list", data := .seq #[] }).get? b = some o := fun b o e => Heap.get?_push_of_some _ e
  have a : At s.heap t1 t2 z TI TO i1 i2 l1 l2 0 := ⟨⟨_, _, hzo, .inl ⟨rfl, rfl⟩⟩, hI, hO, h1, h2⟩
  obtain ⟨u, v, hO⟩ := hO
  have lz : z < S := by rw [← hS]; exact Heap.lt_size hzo
  have lI : TI < S := by rw [← hS]; exact Heap.lt_size hI
  have lO : TO < S := by rw [← hS]; exact Heap.lt_size hO
  have la : i1 < S := by rw [← hS]; exact let ⟨_, e, _⟩ := h1.obj; Heap.lt_size e
  have lb : i2 < S := by rw [← hS]; exact let ⟨_, e, _⟩ := h2.obj; Heap.lt_size e
  obtain ⟨k1, k2⟩ := hl
  show wpAny _ _ (do let old ← Builtin.List.listItems (.ref S); Builtin.List.listUpdate (.ref S) (fun _ => #[]); letGo old.toList.reverse; Builtin.List.listExtendWith (.ref S) (.ref z) .none) _ _ _
  refine wpAny_bind ?_
  unfold Builtin.List.listItems
  refine wpAny_bind (wpAny_seqItems hS1 rfl (wpAny_pure ?_))
  show wpAny _ _ (updateSeq S (fun _ => #[]) >>= fun _ => letGo (#[] : Array Value).toList.reverse >>= fun _ => Builtin.List.listExtendWith (.ref S) (.ref z) .none) _ _ _
  refine wpAny_bind (wpAny_updateSeq hS1 rfl ?_)
  have hS2 := Heap.get?_update_self (Obj.mapSeq (fun _ => (#[] : Array Value))) hS1 rfl
  generalize hg2 : (s.heap.push { cls := .type "list", data := .seq #[] }).update S (Obj.mapSeq (fun _ => (#[] : Array Value))) = g2 at hS2
  have up2 : ∀ b o, s.heap.get? b = some o → b ≠ S → g2.get? b = some o := fun b o e hb => by rw [← hg2]; exact (Heap.get?_update_other _ _ (Ne.symm hb)).trans (up b o e)
  have lt2 : ∀ b o, s.heap.get? b = some o → b ≠ S := fun b o e => by rw [← hS]; exact Nat.ne_of_lt (Heap.lt_size e)
  have a2 : At g2 t1 t2 z TI TO i1 i2 l1 l2 0 := a.go up2 ⟨Nat.ne_of_lt lz, Nat.ne_of_lt lI, Nat.ne_of_lt lO, Nat.ne_of_lt la, Nat.ne_of_lt lb⟩ fun b o e => ⟨o, up2 b o e (lt2 b o e)⟩
  refine wpAny_bind (wpAny_letGo ?_)
  unfold Builtin.List.listExtendWith
  have hz2 : ZipOb g2 z TI TO .none false := up2 _ _ hzo (Nat.ne_of_lt lz)
  have zT : (Shared.mk g2 s.gens s.drawn s.toks s.os).TypeIs (.ref z) "zip" := ⟨_, hz2, rfl⟩
  have h1z : Builtin.List.listSameRef (.ref S) (.ref z) = false := by simp [Builtin.List.listSameRef, Nat.ne_of_gt lz]
  have e1 : (Value.type "zip" == Value.type "list") = false := by decide
  have e2 : (Value.type "zip" == Value.type "tuple") = false := by decide
  refine wpAny_bind (wpAny_typeOf zT ?_)
  simp only [h1z, e1, e2, Bool.or_false, Bool.false_eq_true, if_false]
  refine wpAny_bind (wpAny_pyIter_zip (f0 := .none) hz2 ?_)
  refine wpAny_bind (wpAny_holding (hint_zip zT ?_))
  simp only [Bool.true_or, if_true]
  refine wpAny_bind (wpAny_rule (wpAny_bind ?_))
  show wpAny _ _ (updateSeq S (·.push .none) >>= fun _ => updateSeq S (·.pop)) _ _ _
  refine wpAny_bind (wpAny_updateSeq hS2 rfl ?_)
  have hS3 := Heap.get?_update_self (Obj.mapSeq (·.push Value.none)) hS2 rfl
  refine wpAny_updateSeq (hz := by seq_fits) hS3 rfl (wpAny_pure ⟨plainId_quiet F.plain_extend_loop _, ?_⟩)
  have hS4 := Heap.get?_update_self (Obj.mapSeq (·.pop)) hS3 rfl
  generalize hg4 : (g2.update S (Obj.mapSeq (·.push Value.none))).update S (Obj.mapSeq (·.pop)) = g4 at hS4
  obtain ⟨c5, hS5⟩ : ∃ c, g4.get? S = some { cls := .type "list", dict := none, data := .seq (([] : List Addr).map Value.ref).toArray c, slots := #[] } := ⟨_, hS4.trans (by simp [Obj.mapSeq]; rfl)⟩
  have up4 : ∀ b o, g2.get? b = some o → b ≠ S → g4.get? b = some o := fun b o e hb => by rw [← hg4]; exact (Heap.get?_update_other _ _ (Ne.symm hb)).trans ((Heap.get?_update_other _ _ (Ne.symm hb)).trans e)
  have hbig : S + 1 ≤ g4.objs.size := Heap.lt_size hS4
  have kp : ∀ c, keep c → c ≠ S := fun c hc => Nat.ne_of_lt (hk c hc).2.2.2.2
  refine loop_ok (A := A.in1) (N := S + 1) (n := n) (xs := xs) (ys := ys) (show A.in1.handled = none from hh) D hn hz ⟨Nat.ne_of_lt lz, Nat.ne_of_lt lI, Nat.ne_of_lt lO, Nat.ne_of_lt la, Nat.ne_of_lt lb, kp _ k1, kp _ k2⟩ keep (fun c hc => ?_) ⟨k1, k2⟩ n 0 { s with heap := g4 } [] c5 (by omega) (Nat.zero_le _) hbig (Nat.lt_succ_self _) (Nat.lt_succ_of_lt lz) (Nat.lt_succ_of_lt lO) (Nat.lt_succ_of_lt la) (Nat.lt_succ_of_lt lb)
    (a2.go up4 ⟨Nat.ne_of_lt lz, Nat.ne_of_lt lI, Nat.ne_of_lt lO, Nat.ne_of_lt la, Nat.ne_of_lt lb⟩ fun b o e => ?_) (q1.go fun o e => up4 _ o (up2 _ o e (kp _ k1)) (kp _ k1)) (q2.go fun o e => up4 _ o (up2 _ o e (kp _ k2)) (kp _ k2)) ⟨rfl, fun j T e => by simp at e⟩ (fun T hT => by simp at hT) hS5 ?_
  · obtain ⟨c1, c2, c3, c4, c5⟩ := hk c hc
    exact ⟨c1, c2, c3, c4, kp c hc, Nat.lt_succ_of_lt c5⟩
  · by_cases q : b = S
    · subst q; exact ⟨_, hS4⟩
    · exact ⟨o, up4 b o e q⟩
  · intro s' Ts' c' he hb hP hT hS'
    rw [he]
    exact ⟨rfl, k s'.heap s'.toks Ts' ⟨hP, fun T h => hT T h, c', hS'⟩ fun b o hkb e => hb b o hkb (up4 b o (up2 b o e (kp b hkb)) (kp b hkb))⟩
end
end Gz

namespace Gs
open PySem PySem.Spec PyProof.Rows L2 Evl
theorem boot_lst : bootBuiltins ("list" : Str) = some (.type "list") := by decide +kernel
/-- several new objects are tracked -/
theorem Inv_trackN {X : Cx} {pins : List (Addr × Obj)} {σ : L2.St} {H H' : Hp} {s : Shared} {h' : Heap} {tk : Nat} (I : Inv X pins σ H s) (k : ∀ b u, s.heap.get? b = some u → h'.get? b = some u) (e : ∀ b o, H b = some o → H' b = some o)
    (n : ∀ b o, H b = none → H' b = some o → s.heap.objs.size ≤ b ∧ ObjOk X.prog X.w H' h' b o) : Inv X pins σ H' { s with heap := h', toks := tk } := by
  refine I.un ⟨fun b o q _ _ _ => k b o q, fun b o q _ _ _ => ⟨o.slots, k b o q⟩, fun b o q hn _ => ?_, fun b o q _ => ⟨o, k b o q⟩, fun b xs q => e b _ q, fun b o u q => e b _ q, fun b ps q => ⟨#[], by rw [e b _ q]; simp⟩⟩ fun b u q => ?_
  · cases z : H' b with
    | none => rfl
    | some u => exact absurd (Heap.lt_size q) (Nat.not_lt.mpr (n b u hn z).1)
  · cases z : H b with
    | none => exact (n b u z q).2
    | some v =>
      have := e b v z
      rw [q] at this
      cases this
      exact (I.hok b _ z).stay (fun c w _ y => k c w y) (fun c y => e c _ y) fun c xs y => e c _ y
/-- the pairs of two lists at their addresses -/
def PairsAt (H : Hp) (xs ys : List V) (n : Nat) (Ts : List Addr) : Prop := Ts.length = n ∧ ∀ (j : Nat) (T : Addr), Ts[j]? = some T → ∃ x y, xs[j]? = some x ∧ ys[j]? = some y ∧ H T = some (.tup [x, y])
theorem two_eq {a b x y : V} (h1 : a = x) (h2 : b = y) : some (HO.tup [a, b]) = some (HO.tup [x, y]) := by rw [h1, h2]
/-- list(zip(a list, a tuple)) -/
def tLZ (K : PySem.W.Frag) (ta : TA) : TE := fun σ H Q => ta σ H fun vs H1 => ∃ a b xs ys, vs = [.ref a, .ref b] ∧ SqL K H1 a xs ∧ SqT K H1 b ys ∧ xs.length ≤ 1000 ∧
  ∀ q Ts H2, H1 q = none → Ex H1 H2 → H2 q = some (.lst (Ts.map V.ref)) → PairsAt H2 xs ys (min xs.length ys.length) Ts → (∀ T ∈ Ts, H1 T = none) → (∀ b o, H2 b = some o → H1 b = some o ∨ b = q ∨ b ∈ Ts) → Q (.ref q) H2
theorem pe_listZip {X : Cx} {e e2 : Expr} {ta : TA} {p p2 pos pos2 : Pos} (hc : X.calm = true) (hg : Gl X "zip") (hm : X.mg "zip" = none) (hgl : Gl X "list") (hml : X.mg "list" = none) (ha : PA X [e, e2] ta) (hs : starEach [e, e2] X.env = (false, eval e X.env) :: starEach [e2] X.env := by rfl)
    (hpl : (backTo pos2 (starEach [e2] X.env)).any (·.1) = false := by rfl)
    (hs2 : starEach [.Call (.Name "zip" p2) [e, e2] [] pos2] X.env = (false, eval (.Call (.Name "zip" p2) [e, e2] [] pos2) X.env) :: starEach [] X.env := by rfl) : PE X (.Call (.Name "list" p) [.Call (.Name "zip" p2) [e, e2] [] pos2] [] pos) (tLZ X.K ta) := by
  refine ⟨fun pins s σ H Q I h => ?_⟩
  refine wpAny_Call_Name_kw (ld_blt I hgl hml boot_lst ?_)
  refine PyProof.Rows.callWith_type1 ?_ hs2 rfl
  rw [hs2]
  show wpAny _ _ (spliced ((false, eval (.Call (.Name "zip" p2) [e, e2] [] pos2) X.env) :: backTo pos (starEach [] X.env))) _ _ s
  refine Calls.spliced_cons ?_
  refine Call_ (ld_blt I hg hm PyProof.Rows.boot_zip (PyProof.Rows.callWith_type1 (thn (ha.run pos2 pins s σ H _ I h) fun us s1 ⟨vs, H1, I1, r1, q1⟩ => ?_) hs hpl))
  obtain ⟨a, b, xs, ys, rfl, hqx, hqy, hlen, q⟩ := q1
  obtain ⟨u1, u2, rfl, r, r'⟩ := Vals.two r1
  cases r
  cases r'
  obtain ⟨its, rv, p1, _⟩ := I1.list hqx
  obtain ⟨its2, rv2, p2', _⟩ := I1.tuple hqy
  obtain ⟨o2, ho2, _⟩ := id p2'
  refine Gz.call_lt p1.isList (show s1.heap.IsTuple b its2.toArray from p2') fun h' N => ?_
  have I2 : Inv X pins σ H1 { s1 with heap := h' } := I1.kept (t' := s1.toks) N.up
  have l1 := rv.length
  have l2 := rv2.length
  refine Calls.spliced_nil ?_
  have hn : (min xs.length ys.length) = min its.toArray.size its2.toArray.size := by rw [l1, l2]; simp
  have nsz : s1.heap.objs.size + 4 < h'.objs.size := Heap.lt_size N.zo
  have D := apart5 (a := a) (b := b) s1.heap.objs.size p1.lt (Heap.lt_size ho2)
  refine Gz.list_zip (t1 := false) (t2 := true) (xs := its.toArray) (ys := its2.toArray) (n := min xs.length ys.length) (keep := fun c => c < s1.heap.objs.size) (I2.ok.hd hc) D hn (Nat.le_trans (Nat.min_le_left _ _) hlen) N.zo N.ti ⟨_, _, N.to⟩ N.s1 N.s2 (Gz.Sq.go (tp := false) (show Gz.Sq s1.heap false a its.toArray from p1.isList) fun o e => N.up _ o e) (Gz.Sq.go (tp := true) (show Gz.Sq s1.heap true b its2.toArray from p2') fun o e => N.up _ o e)
    (fun c hc => ⟨Nat.ne_of_lt (Nat.lt_of_lt_of_le hc (Nat.le_add_right _ _)), Nat.ne_of_lt (Nat.lt_of_lt_of_le hc (Nat.le_add_right _ _)), Nat.ne_of_lt hc, Nat.ne_of_lt (Nat.lt_of_lt_of_le hc (Nat.le_add_right _ _)), Nat.lt_trans (Nat.lt_of_lt_of_le hc (Nat.le_add_right _ 4)) nsz⟩) ⟨p1.lt, Heap.lt_size ho2⟩ fun h2 tk Ts M hkeep => ?_
  obtain ⟨c5, hlst⟩ := M.ls
  have low : ∀ b, h'.objs.size ≤ b → H1 b = none := fun b hb => I2.hok.fresh hb
  have lowT : ∀ T ∈ Ts, H1 T = none := fun T hT => low T (Nat.le_of_lt (M.ge T hT))
  have lowS : H1 h'.objs.size = none := low _ (Nat.le_refl _)
  have up : ∀ b o, s1.heap.get? b = some o → h2.get? b = some o := fun b o e => hkeep b o (Heap.lt_size e) (N.up b o e)
  -- the pairs by values
  have hatj : ∀ (j : Nat) (T : Addr), Ts[j]? = some T → ∃ (x y : V), xs[j]? = some x ∧ ys[j]? = some y ∧ ∃ u v, h2.get? T = some { cls := .type "tuple", data := .seq #[u, v] } ∧ RelV x u ∧ RelV y v := fun j T hj' => by
    obtain ⟨u, v, e1, e2, e3⟩ := M.pr.2 j T hj'
    have lj : j < min xs.length ys.length := by
      rw [← M.pr.1]
      exact (List.getElem?_eq_some_iff.mp hj').1
    have hxj : xs[j]? = some (xs[j]'(by omega)) := List.getElem?_eq_getElem (by omega)
    have hyj : ys[j]? = some (ys[j]'(by omega)) := List.getElem?_eq_getElem (by omega)
    obtain ⟨u', g1, g2⟩ := rv.get hxj
    obtain ⟨v', g3, g4⟩ := rv2.get hyj
    have : u' = u := by
      have z : its[j]? = some u := by simpa using e1
      rw [g1] at z; exact Option.some.inj z
    subst this
    have : v' = v := by
      have z : its2[j]? = some v := by simpa using e2
      rw [g3] at z; exact Option.some.inj z
    subst this
    exact ⟨_, _, hxj, hyj, u', v', e3, g2, g4⟩
  have hat : ∀ T, T ∈ Ts → ∃ (x y : V), ∃ u v, h2.get? T = some { cls := .type "tuple", data := .seq #[u, v] } ∧ RelV x u ∧ RelV y v := fun T hT => by
    obtain ⟨j, hj, e⟩ := List.getElem_of_mem hT
    obtain ⟨x, y, _, _, r⟩ := hatj j T (by rw [List.getElem?_eq_getElem hj, e])
    exact ⟨x, y, r⟩
  let HT : Hp := fun b => if b = h'.objs.size then some (.lst (Ts.map V.ref)) else if h : b ∈ Ts then some (.tup [(hat b h).choose, (hat b h).choose_spec.choose]) else H1 b
  have hT1 : ∀ T ∈ Ts, T ≠ h'.objs.size := fun T hT => Nat.ne_of_gt (M.ge T hT)
  have HTt : ∀ T (h : T ∈ Ts), HT T = some (.tup [(hat T h).choose, (hat T h).choose_spec.choose]) := fun T h => by
    show (if T = h'.objs.size then _ else if h : T ∈ Ts then _ else _) = _
    rw [if_neg (hT1 T h), dif_pos h]
  have HTs : HT h'.objs.size = some (.lst (Ts.map V.ref)) := by
    show (if h'.objs.size = h'.objs.size then _ else _) = _
    rw [if_pos rfl]
  have HTo : ∀ b, b ≠ h'.objs.size → b ∉ Ts → HT b = H1 b := fun b h1 h2 => by
    show (if b = h'.objs.size then _ else if h : b ∈ Ts then _ else _) = _
    rw [if_neg h1, dif_neg h2]
  have ex : Ex H1 HT := fun b o e => by
    rw [HTo b (fun z => by rw [z, lowS] at e; cases e) (fun z => by rw [lowT b z] at e; cases e)]
    exact e
  have I3 : Inv X pins σ HT { s1 with heap := h2, toks := tk } := by
    refine Inv_trackN I1 up ex fun c o hn e => ?_
    by_cases q1 : c = h'.objs.size
    · subst q1
      rw [HTs] at e
      cases e
      refine ⟨Nat.le_of_lt (Nat.lt_of_le_of_lt (Nat.le_add_right _ 4) nsz), ?_⟩
      refine ⟨?_, Ts.map Value.ref, c5, vals_refs Ts, hlst⟩
      rw [List.length_map, M.pr.1]
      exact sz_of (by omega)
    · by_cases q2 : c ∈ Ts
      · rw [HTt c q2] at e
        cases e
        refine ⟨Nat.le_of_lt (Nat.lt_trans (Nat.lt_of_le_of_lt (Nat.le_add_right _ 4) nsz) (M.ge c q2)), ?_⟩
        obtain ⟨u, v, g1, g2, g3⟩ := (hat c q2).choose_spec.choose_spec
        exact ⟨by show 2 ≤ sizeLine; decide, [u, v], .cons g2 (.cons g3 .nil), ⟨_, g1, rfl, _, rfl⟩⟩
      · rw [HTo c q1 q2, hn] at e
        cases e
  refine ⟨.ref h'.objs.size, HT, I3, rfl, q _ Ts HT lowS ex HTs ⟨M.pr.1, fun j T hj => ?_⟩ lowT fun b o e => ?_⟩
  · have hm : T ∈ Ts := List.mem_of_getElem? hj
    obtain ⟨u, v, g1, g2, g3⟩ := (hat T hm).choose_spec.choose_spec
    obtain ⟨x, y, f1, f2, u2, v2, k1, k2, k3⟩ := hatj j T hj
    rw [g1] at k1
    have ek : u = u2 ∧ v = v2 := by simpa using k1
    obtain ⟨rfl, rfl⟩ := ek
    exact ⟨x, y, f1, f2, (HTt T hm).trans (two_eq (RelV.inj g2 k2) (RelV.inj g3 k3))⟩
  · by_cases q1 : b = h'.objs.size
    · exact .inr (.inl q1)
    · by_cases q2 : b ∈ Ts
      · exact .inr (.inr q2)
      · rw [HTo b q1 q2] at e
        exact .inl e
end Gs

set_option Elab.async false
set_option linter.all false
set_option maxRecDepth 100000
set_option maxHeartbeats 4000000
/-! GsEnum: for i, x in enumerate(a tuple). -/
namespace Gz
open PySem
open PySem.Sem (wp)
open PySem.AutoSeq1 (wpAny_loadPart')
theorem made_enT (l : Addr) (items : Array Value) (n : Nat) (dct : Option Addr) (sl : Array (Option Value)) : Meets (Builtin.«enumerate.__new__» ⟨[.type "enumerate", .ref l], []⟩) (fun _ R s => s.heap.get? l = some { cls := .type "tuple", dict := dct, data := .seq items n, slots := sl } ∧
    R (.ok (.ret (.ref (s.heap.push (itOb true l)).objs.size))) { s with heap := (s.heap.push (itOb true l)).push { cls := .type "enumerate", data := .fields #[.none, .bool false, .ref s.heap.objs.size, rawInt 0, .none, .none] } }) := .of_wp fun prog w A R s h => by
  obtain ⟨hp, g, d, tk, os⟩ := s
  obtain ⟨hl, h⟩ := h
  have hsub := sub_enumerate
  have hL : Heap.IsTuple (Shared.heap ⟨hp, g, d, tk, os⟩) l items := ⟨_, hl, rfl, n, rfl⟩
  wp_walk using wpAny_loadPart' hl
  refine wpAny_stack_any fun st => wpAny_pure ?_
  split
  · rename_i c _ _ _ _ _
    cases (c == Value.type "enumerate")
    · wp_walk using wpAny_loadPart' hl, wpAny_pyIter_tuple hL
      exact ⟨_, rfl, h⟩
    · wp_walk using wpAny_loadPart' hl, wpAny_pyIter_tuple hL
      exact ⟨_, rfl, h⟩
  · wp_walk using wpAny_loadPart' hl, wpAny_pyIter_tuple hL
    exact ⟨_, rfl, h⟩
section
variable {prog : Program} {w : World} {A : Around} {E : Value → Shared → Prop} {s : Shared}
theorem call_enT {l : Addr} {items : Array Value} {Q : Value → Shared → Prop} (hL : s.heap.IsTuple l items)
    (h : ∀ h', IsEnum h' (s.heap.objs.size + 1) s.heap.objs.size 0 .none → Src h' true s.heap.objs.size l 0 → (∀ b o, s.heap.get? b = some o → h'.get? b = some o) → Q (.ref (s.heap.objs.size + 1)) { s with heap := h' }) :
    wpAny (model prog w) A (call (.type "enumerate") [.ref l]) Q E s := by
  obtain ⟨⟨c, dct, dt, sl⟩, hl, hc, n, hd⟩ := hL
  replace hc : c = .type "tuple" := hc
  replace hd : dt = .seq items n := hd
  subst hc hd
  refine callType_new F.called_enumerate (by decide) (F.typeCall_enumerate_1 _) (F.newCall_enumerate_1 _) (fun obj => F.args_object_init_2 obj _) F.entry_enumerate_new (made_enT l items n dct sl) ⟨hl, ?_⟩
  have hz : (s.heap.push (itOb true l)).objs.size = s.heap.objs.size + 1 := Heap.size_push ..
  show _ ∧ _
  rw [hz]
  have he : IsEnum ((s.heap.push (itOb true l)).push { cls := .type "enumerate", data := .fields #[.none, .bool false, .ref s.heap.objs.size, rawInt 0, .none, .none] }) (s.heap.objs.size + 1) s.heap.objs.size 0 .none := by
    have q := Heap.get?_push_size (s.heap.push (itOb true l)) (o := { cls := .type "enumerate", data := .fields #[.none, .bool false, .ref s.heap.objs.size, rawInt 0, .none, .none] }) rfl
    rw [hz] at q
    exact q
  exact ⟨⟨_, he, rfl⟩, h _ he (src_new.go fun o e => Heap.get?_push_of_some _ e) fun b o x => Heap.get?_push_of_some _ (Heap.get?_push_of_some _ x)⟩
variable {e it l : Addr} {i : Nat} {items : Array Value} {x old : Value} {tp : Bool}
theorem enum_next {Q : Value → Shared → Prop} (he : IsEnum s.heap e it i old) (hit : Src s.heap tp it l i) (hl : Sq s.heap tp l items) (hx : items[i]? = some x) (hne : e ≠ it)
    (q : ∀ h', IsEnumOut h' e it ((i : Int) + 1) x s.heap.objs.size → Src h' tp it l (i + 1) → h'.get? s.heap.objs.size = some { cls := .type "tuple", data := .seq #[.int i s.toks, x] } → (∀ b o, b ≠ e → b ≠ it → s.heap.get? b = some o → h'.get? b = some o) → Q (.ref s.heap.objs.size) { s with heap := h', toks := s.toks + 1 }) :
    wpAny (model prog w) A (Builtin.«enumerate.__next__» ⟨[.ref e], []⟩) (fun fin s' => ∃ v, fin = .done (.ret v) ∧ Q v s') E s := by
  obtain ⟨hp, g, d, tk, os⟩ := s
  show wpAny _ _ (field (.ref e) 2 >>= _) _ _ _
  refine wpAny_bind (wpAny_field he rfl (x := .ref it) rfl (wpAny_bind (draw_item hit hl hx fun h1 t1 s1 => ?_)))
  have s1 : Heap.SameBut it hp h1 := s1
  have e1 : IsEnum h1 e it i old := s1.extBut _ _ hne he
  show wpAny _ _ (field (.ref e) 3 >>= _) _ _ ⟨h1, g, d, tk, os⟩
  refine wpAny_bind (wpAny_field e1 rfl (x := rawInt i) rfl ?_)
  show wpAny _ _ (field (.ref e) 4 >>= _) _ _ ⟨h1, g, d, tk, os⟩
  refine wpAny_bind (wpAny_field e1 rfl (x := .none) rfl ?_)
  show wpAny _ _ (mkInt i >>= _) _ _ ⟨h1, g, d, tk, os⟩
  refine wpAny_bind (wpAny_mkInt ?_)
  show wpAny _ _ (setField (.ref e) 3 (rawInt ((i : Int) + 1)) >>= _) _ _ ⟨h1, g, d, tk + 1, os⟩
  refine wpAny_bind (wpAny_setField_rec e1 (by simp) fun h2 e2 s2 => ?_)
  have s2 : Heap.SameBut e h1 h2 := s2
  have e2 : IsEnum h2 e it ((i : Int) + 1) old := e2
  show wpAny _ _ (setField (.ref e) 4 .none >>= _) _ _ ⟨h2, g, d, tk + 1, os⟩
  refine wpAny_bind (wpAny_setField_rec e2 (by simp) fun h3 e3 s3 => ?_)
  have s3 : Heap.SameBut e h2 h3 := s3
  have e3 : IsEnum h3 e it ((i : Int) + 1) old := e3
  show wpAny _ _ (newTuple [.int i tk, x] >>= _) _ _ ⟨h3, g, d, tk + 1, os⟩
  refine wpAny_bind (wpAny_newTuple ?_)
  have e4 : IsEnum (h3.push { cls := .type "tuple", data := .seq #[.int i tk, x] }) e it ((i : Int) + 1) old := Heap.get?_push_of_some _ e3
  have sz : h3.objs.size = hp.objs.size := by rw [s3.1, s2.1, s1.1]
  have lz : e < hp.objs.size := Heap.lt_size he
  have T4 : (h3.push { cls := .type "tuple", data := .seq #[.int i tk, x] }).get? hp.objs.size = some { cls := .type "tuple", data := .seq #[.int i tk, x] } := by rw [← sz]; exact Heap.get?_push_size _ rfl
  have up3 : ∀ b o, b ≠ e → b ≠ it → hp.get? b = some o → h3.get? b = some o := fun b o b1 b2 q => s3.extBut b o b1 (s2.extBut b o b1 (s1.extBut b o b2 q))
  have t3 : ∀ o, h1.get? it = some o → h3.get? it = some o := fun o q => s3.extBut it o (Ne.symm hne) (s2.extBut it o (Ne.symm hne) q)
  show wpAny _ _ (Builtin.SmallTypes.ownedTupleIsFree (.ref e) >>= _) _ _ _
  rw [sz]
  refine wpAny_bind ?_
  unfold Builtin.SmallTypes.ownedTupleIsFree
  refine wpAny_bind (wpAny_field e4 rfl (x := .none) rfl (wpAny_pure ?_))
  simp only [if_true]
  refine wpAny_bind (wpAny_rule (wpAny_bind (wpAny_field e4 rfl (x := old) rfl (wpAny_bind (wpAny_setField_rec e4 (by simp) fun h5 e5 s5 => ?_)))))
  have e5 : IsEnum h5 e it ((i : Int) + 1) x := e5
  show wpAny _ _ (Builtin.SmallTypes.ownedTupleHandOut (.ref e) (.ref hp.objs.size) >>= _) _ _ ⟨h5, g, d, tk + 1, os⟩
  refine wpAny_bind ?_
  unfold Builtin.SmallTypes.ownedTupleHandOut
  refine wpAny_bind (wpAny_setField_rec e5 (by simp) fun h6 e6 s6 => ?_)
  have e6 : IsEnumOut h6 e it ((i : Int) + 1) x hp.objs.size := e6
  refine wpAny_setField_rec e6 (by simp) fun h7 e7 s7 => ?_
  have e7 : IsEnumOut h7 e it ((i : Int) + 1) x hp.objs.size := e7
  have up7 : ∀ b o, b ≠ e → (h3.push { cls := .type "tuple", data := .seq #[.int i tk, x] }).get? b = some o → h7.get? b = some o := fun b o hb q => s7.extBut b o hb (s6.extBut b o hb (s5.extBut b o hb q))
  refine wpAny_bind (wpAny_letGo (wpAny_pure ⟨_, rfl, q h7 e7 (t1.go fun o z => up7 _ _ (Ne.symm hne) (Heap.get?_push_of_some _ (t3 o z))) (up7 _ _ (Nat.ne_of_gt lz) T4) fun b o b1 b2 z => up7 _ _ b1 (Heap.get?_push_of_some _ (up3 b o b1 b2 z))⟩))
theorem py_en {Q : Option Value → Shared → Prop} (hz : ∃ o, s.heap.get? e = some o ∧ o.cls = .type "enumerate")
    (h : wpAny (model prog w) A.in1 (Builtin.«enumerate.__next__» ⟨[.ref e], []⟩) (fun fin s' => ∃ v, fin = .done (.ret v) ∧ Q (some v) s') (fun x s' => ∃ c o, x = .ref c ∧ s'.heap.get? c = some o ∧ o.cls = .type "StopIteration" ∧ Q none s') s) :
    wpAny (model prog w) A (pyNext (.ref e)) Q E s := by
  have hT : s.TypeIs (.ref e) "enumerate" := hz
  unfold pyNext
  refine wpAny_bind (wpAny_attempt (wpAny_callSpecial?_slot (name := Str.ofString "__next__") hT F.slot_enumerate_next (wpAny_call_entry F.slot_enumerate_next hT F.entry_enumerate_next (wpAny_mono h ?_ ?_) (F.args_enumerate_next_1 _))))
  · rintro fin s' ⟨v, rfl, q⟩
    exact ⟨v, rfl, wpAny_pure q⟩
  · rintro e s' ⟨c, o, rfl, ho, hc, q⟩
    exact wpAny_bind (wpAny_isInstance (T := "StopIteration") (b := true) ⟨o, ho, hc⟩ isSubtype_stop (wpAny_pure q))
theorem enum_end {Q : PySem.Fin → Shared → Prop} (hh : A.handled = none) (he : IsEnum s.heap e it i old) (hit : Src s.heap tp it l i) (hl : Sq s.heap tp l items) (hx : items[i]? = none)
    (k : ∀ h' e, Heap.ExtBut it s.heap h' → (∃ o, h'.get? e = some o ∧ o.cls = .type "StopIteration") → E (.ref e) { s with heap := h' }) :
    wpAny (model prog w) A (Builtin.«enumerate.__next__» ⟨[.ref e], []⟩) Q E s := by
  show wpAny _ _ (field (.ref e) 2 >>= _) _ _ _
  exact wpAny_bind (wpAny_field he rfl (x := .ref it) rfl (wpAny_bind (draw_end hh hit hl hx k)))
end
end Gz
namespace Gs
open PySem PySem.Spec PyProof.Rows L2 Evl
/-- the tuple at a, each item with its place in a new pair -/
def Iten (K : PySem.W.Frag) (a : Addr) : It where
  go := fun i H => ∃ (xs : List V) (x : V), SqT K H a xs ∧ xs[i]? = some x
  yld := fun i H v H' => ∃ T x, v = .ref T ∧ H T = none ∧ H' = upd H T (.tup [.int (i : Nat), x]) ∧ ∀ xs, SqT K H a xs → xs[i]? = some x
  stop := fun i H => ∃ xs : List V, SqT K H a xs ∧ xs.length ≤ i
def ESt (a e it : Addr) (i : Nat) (h : Heap) : Prop := (∃ old, IsEnum h e it ((i : Nat) : Int) old) ∧ Gz.Src h true it a i ∧ e ≠ it
theorem turn_enT {P : Program} {w : World} {K : PySem.W.Frag} {elts : List Expr} {kk : Nat} {tpos : Pos} (a e it : Addr) : Turn P w K (.Tuple elts kk tpos) (Iten K a) [e, it] e (ESt a e it) where
  mem := List.mem_cons_self
  obj := fun i h st b hb => by
    obtain ⟨⟨old, he⟩, hi, _⟩ := st
    simp only [List.mem_cons, List.not_mem_nil, or_false] at hb
    rcases hb with rfl | rfl
    · exact ⟨_, he, fun v q => nomatch q⟩
    · exact hi.obj
  keep := fun i h h' st k => let ⟨⟨old, he⟩, hi, hne⟩ := st; ⟨⟨old, k e (by simp) _ he⟩, hi.go fun o q => k it (by simp) o q, hne⟩
  item := by
    intro X hP hw hK hc i pins s σ H E I hf st hg
    subst hP hw hK
    obtain ⟨⟨old, he⟩, hit, hne⟩ := st
    obtain ⟨xs, x, hq, hx⟩ := hg
    obtain ⟨its, rv, p, hz⟩ := I.tuple hq
    obtain ⟨u, hu, ru⟩ := rv.get hx
    have hel : e < s.heap.objs.size := Heap.lt_size he
    refine Gz.py_en ⟨_, he, rfl⟩ (Gz.enum_next (tp := true) (items := its.toArray) (x := u) he hit (show s.heap.IsTuple a its.toArray from p) (by simpa using hu) hne fun h' ho hit' hT hk => ?_)
    refine ⟨_, rfl, wpAny_letOwnedTupleGo_enum (s := { s with heap := h', toks := s.toks + 1 }) ho fun h2 he' sb => ?_⟩
    have hT2 : h2.get? s.heap.objs.size = some { cls := .type "tuple", data := .seq #[.int i s.toks, u] } := (sb.2 _ (Nat.ne_of_gt hel)).trans hT
    have new : ObjOk X.prog X.w (upd H s.heap.objs.size (.tup [.int (i : Nat), x])) h2 s.heap.objs.size (.tup [.int (i : Nat), x]) := ⟨by show 2 ≤ sizeLine; decide, [.int i s.toks, u], .cons ⟨_, rfl⟩ (.cons ru .nil), ⟨_, hT2, rfl, _, rfl⟩⟩
    have I1 : Inv X pins σ (upd H s.heap.objs.size (.tup [.int (i : Nat), x])) { s with heap := h2, toks := s.toks + 1 } :=
      I.turnedNew (ch := [e, it]) (fun b ob hb q => (sb.2 b (fun z => hb (by simp [z]))).trans (hk b ob (fun z => hb (by simp [z])) (fun z => hb (by simp [z])) q)) hf (Nat.le_refl _) new
    refine ⟨.ref s.heap.objs.size, _, I1, rfl, ⟨_, x, rfl, I.hok.fresh (Nat.le_refl _), rfl, fun ys hy => by rw [I.tuple_inj hy hq]; exact hx⟩, ⟨⟨u, ?_⟩, hit'.go fun o q => (sb.2 it (Ne.symm hne)).trans q, hne⟩, fun b hb => ?_⟩
    · rw [show ((i + 1 : Nat) : Int) = (i : Int) + 1 by omega]
      exact he'
    · have hb' : b < s.heap.objs.size := by
        simp only [List.mem_cons, List.not_mem_nil, or_false] at hb
        rcases hb with rfl | rfl
        · exact hel
        · obtain ⟨_, q, _⟩ := hit.obj; exact Heap.lt_size q
      rw [upd_ne (Nat.ne_of_lt hb')]
      exact (hf b hb).1
  done := by
    intro X hP hw hK hc i pins s σ H E I hf st hg
    subst hP hw hK
    obtain ⟨⟨old, he⟩, hit, hne⟩ := st
    obtain ⟨xs, hq, hx⟩ := hg
    obtain ⟨its, rv, p, hz⟩ := I.tuple hq
    obtain ⟨f0, f1, f2, f3, f4, f5⟩ := hf it (by simp)
    have hl := rv.length
    exact Gz.py_en ⟨_, he, rfl⟩ (Gz.enum_end (tp := true) (items := its.toArray) (I.ok.hd hc) he hit (show s.heap.IsTuple a its.toArray from p) (by simp; omega) fun h' c eb ⟨o, ho, hcl⟩ => ⟨c, o, rfl, ho, hcl, rfl, I.turned (t' := s.toks) (fun b o hb q => eb b o hb q) f0 f1 f3 f4 f5⟩)
  self := fun A i s Q E st h => let ⟨⟨_, he⟩, _⟩ := st; wpAny_pyIter_enum he h
def iEnT (K : PySem.W.Frag) (ta : TA) : TI := fun σ H R => ta σ H fun vs H1 => ∃ a xs, vs = [.ref a] ∧ SqT K H1 a xs ∧ R (Iten K a) H1
theorem pi_enT {X : Cx} {e : Expr} {ta : TA} {p pos tpos : Pos} {elts : List Expr} {kk : Nat} (hg : Gl X "enumerate") (hm : X.mg "enumerate" = none) (ha : PA X [e] ta) (hs : starEach [e] X.env = [(false, eval e X.env)] := by rfl) :
    PI X (.Tuple elts kk tpos) (.Call (.Name "enumerate" p) [e] [] pos) (iEnT X.K ta) := by
  refine ⟨fun pins s σ H R I h => ?_⟩
  refine Call_ (ld_blt I hg hm boot_enumerate (PyProof.Rows.callWith_type1 (thn (ha.run pos pins s σ H _ I h) fun us s1 ⟨vs, H1, I1, r1, q1⟩ => ?_) hs rfl))
  obtain ⟨a, xs, rfl, hq, q⟩ := q1
  obtain ⟨u, rfl, r⟩ := Vals.one r1
  cases r
  obtain ⟨its, rv, p', hz⟩ := I1.tuple hq
  refine Gz.call_enT (show s1.heap.IsTuple a its.toArray from p') fun h' he hit hk => wpAny_pyIter_enum he ?_
  have I2 : Inv X pins σ H1 { s1 with heap := h' } := I1.kept (t' := s1.toks) hk
  refine ⟨s1.heap.objs.size + 1, [s1.heap.objs.size + 1, s1.heap.objs.size], _, _, H1, rfl, I2, turn_enT a (s1.heap.objs.size + 1) s1.heap.objs.size, ⟨⟨.none, he⟩, hit, Nat.succ_ne_self _⟩, fun b hb => ?_, q⟩
  have hle : s1.heap.objs.size ≤ b := by
    simp only [List.mem_cons, List.not_mem_nil, or_false] at hb
    rcases hb with rfl | rfl
    · exact Nat.le_add_right _ _
    · exact Nat.le_refl _
  exact I1.fpOk hle (I1.hok.fresh hle)
theorem walk_enT {K : PySem.W.Frag} {a : Addr} {xs : List V} : Walk (Iten K a) xs.length (fun H => SqT K H a xs) (YPair (fun i => some (.int (i : Nat))) (fun i => xs[i]?)) where
  goes := fun i H hi h => ⟨xs, xs[i], h, List.getElem?_eq_getElem hi⟩
  stops := fun H h => ⟨xs, h, Nat.le_refl _⟩
  yields := fun i H x H' hi h y => by
    obtain ⟨T, u, e1, e2, e3, e4⟩ := y
    exact ⟨T, _, u, e1, e2, e3, rfl, e4 _ h⟩
end Gs

set_option Elab.async false
set_option linter.all false
set_option maxRecDepth 100000
set_option maxHeartbeats 4000000
/-! GsComp: comprehensions that fill a dict with any keys, a set of keys. -/
namespace Gs
open PySem PySem.Spec PyProof.Rows L2 Evl

/-! ### one clause, whatever is filled -/
abbrev NoE : Value → Shared → Prop := fun _ _ => False
abbrev tests (ifs : List Expr) (env : Env) : Sem Bool := forIn ifs true fun c r => if r = true then do let ok ← isTrue c env (eval c env); pure (ForInStep.yield ok) else pure (ForInStep.yield r)
/-- the end of a turn: run in env from s, K is reached -/
abbrev StepP := Env → Addr → (Shared → Prop) → Shared → Prop
section
variable {X : Cx}
/-- what a comprehension's loop asks of a turn -/
def LoopOk (X : Cx) (ce tg : Expr) (ifs : List Expr) (B : StepP) : Prop := ∀ (it D : Addr) (env : Env) (R : Result → Shared → Prop) (I : Nat → Shared → Prop),
  (∀ n s, I n s → wpAny (model X.prog X.w) X.A (pyNext (.ref it)) (fun r s1 => match r with
    | none => R (.ok .next) s1
    | some v => wpAny (model X.prog X.w) X.A (letOwnedTupleGo tg (.ref it) v) (fun _ s2 => wpAny (model X.prog X.w) X.A (assign tg env v) (fun _ s3 => wpAny (model X.prog X.w) X.A (tests ifs env) (fun ok s4 =>
        if ok = true then B env D (fun s' => ∃ m, m < n ∧ I m s') s4 else ∃ m, m < n ∧ I m s4) NoE s3) NoE s2) NoE s1) NoE s) → ∀ n s, I n s → codeAny (model X.prog X.w) X.A (.compLoop ce 0 (.ref it) (.ref D) env) R s
def StartOk (X : Cx) (ce : Expr) : Prop := ∀ (it D : Addr) (env : Env) (R : Result → Shared → Prop) (s : Shared), codeAny (model X.prog X.w) X.A (.compLoop ce 0 (.ref it) (.ref D) env) R s →
  (∀ E, wpAny (model X.prog X.w) X.A (pyIter (.ref it)) (fun it' s' => codeAny (model X.prog X.w) X.A (.compLoop ce 0 it' (.ref D) env) R s') E s) → codeAny (model X.prog X.w) X.A (.compStart ce 0 (.ref it) (.ref D) env) R s
/-- the new thing: its object, what is tracked -/
def MakeOk (X : Cx) (mk : Sem Value) (ob : Obj) (o0 : Addr → HO) : Prop := (∀ (E : Value → Shared → Prop) (s : Shared) (Q : Value → Shared → Prop), Q (.ref s.heap.objs.size) { s with heap := s.heap.push ob } → wpAny (model X.prog X.w) X.A mk Q E s) ∧
  ∀ (H : Hp) (h : Heap), sysModules < h.objs.size → ObjOk X.prog X.w H (h.push ob) h.objs.size (o0 h.objs.size)
abbrev BlkIs (X : Cx) (scope : Scope) (P : Cx → Prop) : Prop := ∀ (s : Shared) (H : Hp) (C : Addr) (cl : List (PySem.Str × Addr)) (fp : List Addr), P (X.blk s H scope (compEnvC scope cl C X.env) fp)
/-- the end of a turn, by its reading -/
abbrev TB := Addr → L2.St → Hp → (Hp → Prop) → Prop
def StepIs (B : StepP) (tb : TB) (vs : List Nat) (Y : Cx) : Prop := ∀ (pins : List (Addr × Obj)) (s : Shared) (σ : L2.St) (H : Hp) (D : Addr) (Nx : Hp → Prop) (K : Shared → Prop), Inv Y pins σ H s → tb D σ H Nx →
  (∀ s' σ' H', Inv Y pins σ' H' s' → σ'.length = σ.length → (∀ (j : Nat) v, (wipe σ vs)[j]? = some (some v) → σ'[j]? = some (some v)) → Nx H' → K s') → B Y.env D K s
def tCm (o0 : Addr → HO) (wi : TI) (g : TG) (tt : TT) (tb : TB) (vs : List Nat) : TE := fun σ H Q => wi σ H fun J H1 => ∀ D, H1 D = none → ∃ W : Nat → Nat → Hp → Prop, (∃ m, W 0 m (upd H1 D (o0 D))) ∧ ∀ i m H, W i m H →
  (J.stop i H ∧ Q (.ref D) H) ∨ (J.go i H ∧ ∃ Nx : Hp → Prop, (∀ H', Nx H' → ∃ m', m' < m ∧ W (i + 1) m' H') ∧ ∀ x H', J.yld i H x H' → g x (wipe σ vs) H' fun σ2 H2 => wipe σ2 vs = wipe σ vs ∧ tt σ2 H2 fun b H3 => if b = true then tb D σ2 H3 Nx else Nx H3)
theorem cm_core {pins : List (Addr × Obj)} {s : Shared} {σ : L2.St} {H : Hp} {Q : VK} {ce tg iter : Expr} {ifs : List Expr} {scope : Scope} {own : List (PySem.Str × Nat)} {mk : Sem Value} {ob : Obj} {o0 : Addr → HO} {B : StepP} {pos' : Pos} {wi : TI} {g : TG} {tt : TT} {tb : TB} {gs : List Comprehension}
    (hcl : clausesOf ce = ⟨tg, iter, ifs, 0⟩ :: gs) (hL : LoopOk X ce tg ifs B) (hSt : StartOk X ce) (hM : MakeOk X mk ob o0) (hc : X.calm = true) (hN : X.N.Nodup) (I : Inv X pins σ H s) (hi : PI X tg iter wi) (ok : BlkOk X.N X.env.scope scope own)
    (hg : BlkIs X scope fun Y => PG Y tg g) (ht : BlkIs X scope fun Y => PTs Y ifs tt) (hb : BlkIs X scope (StepIs B tb (own.map (·.2)))) (hs : ∀ x, foldedSetIterable iter X.env x = pure x) (h : tCm o0 wi g tt tb (own.map (·.2)) σ H Q) :
    wpAny (model X.prog X.w) X.A (comprehension ce scope X.env pos' mk false (eval iter X.env) none) (EP X pins σ Q) X.xe s := by
  have hfree : ∀ y ∈ scope.names, y.2 = .free → ∃ c, X.env.cells.lookup y.1 = some c := fun y hy e => (ok.free y hy e).elim (fun k => I.ok.has _ (.inl k)) fun k => I.ok.has _ (.inr k)
  refine wpAny_comprehension_free (use := none) hcl hs (closure_ok hfree) ok.kind (fun y hy e => by rw [ok.uniq y hy, e]) (thn (hi.run pins s σ H _ I h) fun xv s1 hx => thn hx fun itv s2 h2 => ?_)
  obtain ⟨it, fp, tn, J, H2, rfl, I2, T, st2, f2, q⟩ := h2
  refine hM.1 _ _ _ (newEnv_comp ?_)
  generalize hD : s2.heap.objs.size = D
  have hDn : H2 D = none := I2.hok.fresh (Nat.le_of_eq hD)
  obtain ⟨W, ⟨m0, w0⟩, turn⟩ := q D hDn
  generalize hs3 : ({ s2 with heap := s2.heap.push ob } : Shared) = s3
  have h3 : s3.heap = s2.heap.push ob := by rw [← hs3]
  have I3 : Inv X pins σ (upd H2 D (o0 D)) s3 := by
    rw [← hs3]
    refine I2.laid (t' := s2.toks) (fun b o e => Heap.get?_push_of_some _ e) (Nat.le_of_eq hD) ?_
    rw [← hD]
    exact hM.2 _ _ I2.big
  have sz : ∀ b ∈ fp, b < s2.heap.objs.size := fun b hb => let ⟨o, e, _⟩ := T.obj _ _ st2 b hb; Heap.lt_size e
  have f3 : ∀ b ∈ fp, FpOk X pins (upd H2 D (o0 D)) b ∧ b < s3.heap.objs.size := fun b hb => by
    have hlt := sz b hb
    refine ⟨⟨?_, (f2 b hb).2⟩, by rw [h3, Heap.size_push]; exact Nat.lt_succ_of_lt hlt⟩
    rw [upd_ne (by rw [← hD]; exact Nat.ne_of_lt hlt)]
    exact (f2 b hb).1
  have st3 : tn 0 s3.heap := T.keep _ _ _ st2 fun b _ o e => by rw [h3]; exact Heap.get?_push_of_some _ e
  have I4 := block_start I3 ok hN f3
  generalize hcl : cellsFrom (s3.heap.objs.size + 1) scope.names (cloFrom X.env.cells scope.names []) = cl at I4
  have pg := hg s3 (upd H2 D (o0 D)) s3.heap.objs.size cl fp
  have pt := ht s3 (upd H2 D (o0 D)) s3.heap.objs.size cl fp
  have pb := hb s3 (upd H2 D (o0 D)) s3.heap.objs.size cl fp
  show codeAny _ _ (.compStart ce 0 (.ref it) (.ref D) (compEnvC scope cl s3.heap.objs.size X.env)) (compPost (model X.prog X.w) X.A X.xe none (EP X pins σ Q) (.ref D) s3.heap.objs.size) { s3 with heap := pushCells (s3.heap.push { cls := .type "dict", data := .dict #[] }) scope.names }
  have nfp : ∀ b ∈ fp, (upd H2 D (o0 D)) b = none := fun b hb => (f3 b hb).1.1
  generalize hce : compEnvC scope cl s3.heap.objs.size X.env = en at I4 pg pt pb ⊢
  have cL : en.locals = s3.heap.objs.size := by subst hce; rfl
  generalize hH3 : upd H2 D (o0 D) = H3 at I3 I4 pg pt pb w0 nfp f3
  generalize hs4 : ({ s3 with heap := pushCells (s3.heap.push { cls := .type "dict", data := .dict #[] }) scope.names } : Shared) = s4 at I4 ⊢
  have st4 : tn 0 s4.heap := T.keep _ _ _ st3 fun b _ o e => by rw [← hs4]; exact pushCells_keeps _ _ _ _ (Heap.get?_push_of_some _ e)
  have stat : ∀ {σ' : L2.St} {H' : Hp} {s' : Shared}, Inv (X.blk s3 H3 scope en fp) [] σ' H' s' → (∀ b ∈ fp, H' b = none) → ∀ b ∈ fp, FpOk (X.blk s3 H3 scope en fp) [] H' b := fun {σ' H' s'} I' hn b hb =>
    ⟨hn b hb, (I'.ok.exf b hb).1, I'.ok.exfs b hb, .inl hb, fun x c e => (I'.ok.exf b hb).2 x c e, fun p hp => absurd (show p ∈ ([] : List (Addr × Obj)) ++ [] from hp) (by simp)⟩
  have loop : codeAny (model X.prog X.w) X.A (.compLoop ce 0 (.ref it) (.ref D) en) (compPost (model X.prog X.w) X.A X.xe none (EP X pins σ Q) (.ref D) s3.heap.objs.size) s4 := by
    refine hL it D en _ (fun n s' => ∃ i H', Inv (X.blk s3 H3 scope en fp) [] (wipe σ (own.map (·.2))) H' s' ∧ tn i s'.heap ∧ (∀ b ∈ fp, H' b = none) ∧ W i n H') ?_ m0 s4 ⟨0, H3, I4, st4, nfp, w0⟩
    rintro n s5 ⟨i, H5, I5, st5, n5, w5⟩
    rcases turn i n H5 w5 with ⟨stop, qq⟩ | ⟨go, Nx, hNx, step⟩
    · refine thn (T.done (X.blk s3 H3 scope en fp) rfl rfl rfl hc i [] s5 _ H5 NoE I5 (stat I5 n5) st5 stop) fun r s6 ⟨hr, I6⟩ => ?_
      subst hr
      have I7 : Inv X pins σ H5 s6 := I3.call' (ch := fp) I6.os I6.base I6.hok I6.bare fun b hb => ⟨(f3 b hb).1.2.2.2.1, (f3 b hb).1.2.1, (f3 b hb).1.2.2.2.2.1, (f3 b hb).1.2.2.2.2.2⟩
      have nC : H5 s3.heap.objs.size = none := by
        have z : H5 en.locals = none := I6.free
        rw [cL] at z
        exact z
      obtain ⟨m, hn, _⟩ := I6.loc
      have hn : s6.heap.Ns en.locals m := hn
      rw [cL] at hn
      refine ⟨m, hn, fun h'' sb => ?_⟩
      obtain ⟨f0, f1, f2, f3, f4, f5⟩ := I3.fpOk (Nat.le_refl _) nC
      exact ⟨.ref D, H5, I7.turned (t' := s6.toks) (fun b o hb e => (sb.2 b hb).trans e) f0 f1 f3 f4 f5, rfl, qq⟩
    · refine thn (T.item (X.blk s3 H3 scope en fp) rfl rfl rfl hc i [] s5 _ H5 NoE I5 (stat I5 n5) st5 go) fun r s6 ⟨u, hr, h6⟩ => ?_
      subst hr
      refine thn h6 fun _ s7 ⟨x, H7, I7, r7, y7, st7, n7⟩ => ?_
      have I7' := I7.pinned (stat I7 n7) (T.obj _ _ st7)
      refine thn (pg.run _ s7 _ H7 x u _ I7' r7 (step x H7 y7)) fun _ s8 ⟨σ8, H8, I8, hw8, q8⟩ => ?_
      refine thn (pt.run _ s8 σ8 H8 _ I8 q8) fun b s9 ⟨H9, I9, q9⟩ => ?_
      have fin : ∀ {s' : Shared} {σ' : L2.St} {H' : Hp}, Inv (X.blk s3 H3 scope en fp) ([] ++ pinsAt fp s7.heap) σ' H' s' → σ'.length = σ8.length → (∀ (j : Nat) v, (wipe σ8 (own.map (·.2)))[j]? = some (some v) → σ'[j]? = some (some v)) → Nx H' →
          ∃ m, m < n ∧ ∃ i H', Inv (X.blk s3 H3 scope en fp) [] (wipe σ (own.map (·.2))) H' s' ∧ tn i s'.heap ∧ (∀ b ∈ fp, H' b = none) ∧ W i m H' := fun {s' σ' H'} I' hl hk nx => by
        obtain ⟨m', hm, w'⟩ := hNx H' nx
        have pin' : ∀ b ∈ fp, ∀ o, s7.heap.get? b = some o → s'.heap.get? b = some o ∧ H' b = none := fun b hb o e =>
          let z := I'.pin (b, o) (List.mem_append_right _ (List.mem_append_right _ (mem_pinsAt hb e)))
          ⟨z.1, z.2.1⟩
        refine ⟨m', hm, i + 1, H', (I'.unpinned (pins := [])).weak (by rw [hl, ← hw8, wipe_length]) (fun j v e => hk j v (by rw [hw8]; exact e)), T.keep _ _ _ st7 fun b hb o e => (pin' b hb o e).1, fun b hb => ?_, w'⟩
        obtain ⟨o, e, _⟩ := T.obj _ _ st7 b hb
        exact (pin' b hb o e).2
      cases b with
      | false =>
        simp only [Bool.false_eq_true, if_false] at q9 ⊢
        exact fin I9 rfl (fun j v e => (wipe_some e).1) q9
      | true =>
        simp only [if_true] at q9 ⊢
        exact pb _ s9 σ8 H9 D Nx _ I9 q9 fun s' σ' H' I' hl hk nx => fin I' hl hk nx
  exact hSt it D en _ s4 loop fun E => T.self X.A 0 _ _ _ st4 loop

/-! ### dicts -/
def BD (X : Cx) (kx vx : Expr) : StepP := fun env D K s => wpAny (model X.prog X.w) X.A (eval kx env) (fun kv s4 => wpAny (model X.prog X.w) X.A (eval vx env) (fun vv s5 => wpAny (model X.prog X.w) X.A (dictSet D kv vv) (fun _ s6 => K s6) NoE s5) NoE s4) NoE s
theorem noe {α : Type} {t : Sem α} {Q : α → Shared → Prop} {E : Value → Shared → Prop} {M : Model} {A : Around} {s : Shared} (h : wpAny M A t Q NoE s) : wpAny M A t Q E s := wpAny_mono h (fun _ _ r => r) fun _ _ z => z.elim
theorem noeQ {α : Type} {t : Sem α} {Q Q' : α → Shared → Prop} {E : Value → Shared → Prop} {M : Model} {A : Around} {s : Shared} (h : wpAny M A t Q NoE s) (k : ∀ a s, Q a s → Q' a s) : wpAny M A t Q' E s := wpAny_mono h k fun _ _ z => z.elim
theorem loop_dict {kx vx tg iter : Expr} {ifs : List Expr} {scope : Scope} {pos : Pos} : LoopOk X (.DictComp kx vx [⟨tg, iter, ifs, 0⟩] scope pos) tg ifs (BD X kx vx) := fun it D env R I turn n s h => by
  refine compLoop_anyD I (fun n s hI => noeQ (turn n s hI) fun r s1 h1 => ?_) n h
  cases r with
  | none => exact h1
  | some v =>
    refine noeQ h1 fun _ s2 h2 => noeQ h2 fun _ s3 h3 => noeQ h3 fun ok s4 h4 => ?_
    cases ok with
    | false => exact h4
    | true =>
      have h4' : BD X kx vx env D (fun s' => ∃ m, m < n ∧ I m s') s4 := h4
      exact noeQ h4' fun kv s5 h5 => noeQ h5 fun vv s6 h6 => noeQ h6 fun _ s7 h7 => h7
theorem start_dict {kx vx tg iter : Expr} {ifs : List Expr} {rest : List Comprehension} {scope : Scope} {pos : Pos} : StartOk X (.DictComp kx vx (⟨tg, iter, ifs, 0⟩ :: rest) scope pos) := fun it D env R s h k => codeAny_compStart_dict h (k _)
theorem make_dK : MakeOk X newDict { cls := .type "dict", data := .dict #[] } (fun _ => .dK []) := ⟨fun E s Q q => wpAny_newObj_type q, fun H h hb => dk_empty h hb⟩
theorem make_dT : MakeOk X newDict { cls := .type "dict", data := .dict #[] } (fun _ => .dT []) := ⟨fun E s Q q => wpAny_newObj_type q, fun H h hb => dt_empty h hb⟩
theorem dput_ok {Y : Cx} {pins : List (Addr × Obj)} {σ : L2.St} {H H' : Hp} {s : Shared} {E : Value → Shared → Prop} {D : Addr} {y v : V} {u r : Value} {Q : Unit → Shared → Prop} (hu : Y.A.units + 1 < cLine) (I : Inv Y pins σ H s) (g : DPut H D y v H') (ry : RelV y u) (rv : RelV v r) (h : ∀ s', Inv Y pins σ H' s' → Q () s') :
    wpAny (model Y.prog Y.w) Y.A (dictSet D u r) Q E s := by
  rcases g with ⟨kvs, k, e, rfl, l, rfl⟩ | ⟨kvs, k, b, e, rfl, eb, l, rfl⟩
  · exact d_dictSet I e l ry rv h
  · cases (show u = Value.ref b from ry)
    obtain ⟨z, hd, xs, rel, dd⟩ := dt_of I.hok e
    have hz : xs.length ≤ sizeLine := by rw [← Paired.length rel]; exact z
    have hl : (putK kvs k v).length ≤ sizeLine := by have := length_putK kvs k v; omega
    refine wpAny_dictSet_heap (hsz := hz) (show Y.A.units < cLine by omega) (key_of I.hok eb) dd fun h' dd' hs => h _ ?_
    obtain ⟨q, es, ep, hq, h2, h3, h4, _, h5⟩ := dd'
    refine d_write I (by rw [e]; exact True.intro) hs ⟨q, hq⟩ ⟨hl, hd, _, (rel.put k eb rv).keeps fun c ys ec => ?_, q, es, ep, hq, h2, h3, h4, h5⟩
    rw [upd_ne (ne_of ec e (fun z => nomatch z))]
    exact ec
def tbD (tk tv : TE) : TB := fun D σ H Nx => tk σ H fun y H4 => tv σ H4 fun z H5 => ∃ H6, DPut H5 D y z H6 ∧ Nx H6
theorem step_dict {kx vx : Expr} {tk tv : TE} {scope : Scope} (hu : X.A.units + 1 < cLine) (hk : BlkIs X scope fun Y => PE Y kx tk) (hv : BlkIs X scope fun Y => PE Y vx tv) : ∀ vs, BlkIs X scope (StepIs (BD X kx vx) (tbD tk tv) vs) := fun vs => fun s H C cl fp pins s9 σ H9 D Nx K I q k =>
  thn ((hk s H C cl fp).run pins s9 σ H9 _ I q) fun kv s4 ⟨y, H4, I4, r4, q4⟩ => thn ((hv s H C cl fp).run pins s4 σ H4 _ I4 q4) fun vv s5 ⟨z, H5, I5, r5, H6, d, nx⟩ => dput_ok (Y := X.blk s H scope (compEnvC scope cl C X.env) fp) hu I5 d r4 r5 fun s6 I6 => k s6 σ H6 I6 rfl (fun j v e => (wipe_some e).1) nx
variable {kx vx tg iter : Expr} {ifs : List Expr} {scope : Scope} {own : List (PySem.Str × Nat)} {pos : Pos} {wi : TI} {g : TG} {tt : TT} {tk tv : TE}
/-- {k: v for target in iter if ..}, k ints or texts | tuples of them -/
theorem pe_dcK (hu : X.A.units + 1 < cLine) (hc : X.calm = true) (hN : X.N.Nodup) (hi : PI X tg iter wi) (ok : BlkOk X.N X.env.scope scope own) (hg : BlkIs X scope fun Y => PG Y tg g) (ht : BlkIs X scope fun Y => PTs Y ifs tt) (hk : BlkIs X scope fun Y => PE Y kx tk) (hv : BlkIs X scope fun Y => PE Y vx tv)
    (hs : ∀ x, foldedSetIterable iter X.env x = pure x := by intro _; rfl) : PE X (.DictComp kx vx [⟨tg, iter, ifs, 0⟩] scope pos) (tCm (fun _ => .dK []) wi g tt (tbD tk tv) (own.map (·.2))) := by
  refine ⟨fun pins s σ H Q I h => ?_⟩
  rw [arm_eval_DictComp]
  exact cm_core rfl loop_dict start_dict make_dK hc hN I hi ok hg ht (step_dict hu hk hv _) hs h
theorem pe_dcT (hu : X.A.units + 1 < cLine) (hc : X.calm = true) (hN : X.N.Nodup) (hi : PI X tg iter wi) (ok : BlkOk X.N X.env.scope scope own) (hg : BlkIs X scope fun Y => PG Y tg g) (ht : BlkIs X scope fun Y => PTs Y ifs tt) (hk : BlkIs X scope fun Y => PE Y kx tk) (hv : BlkIs X scope fun Y => PE Y vx tv)
    (hs : ∀ x, foldedSetIterable iter X.env x = pure x := by intro _; rfl) : PE X (.DictComp kx vx [⟨tg, iter, ifs, 0⟩] scope pos) (tCm (fun _ => .dT []) wi g tt (tbD tk tv) (own.map (·.2))) := by
  refine ⟨fun pins s σ H Q I h => ?_⟩
  rw [arm_eval_DictComp]
  exact cm_core rfl loop_dict start_dict make_dT hc hN I hi ok hg ht (step_dict hu hk hv _) hs h

/-! ### sets of keys -/
def BS (X : Cx) (elt : Expr) : StepP := fun env D K s => wpAny (model X.prog X.w) X.A (eval elt env) (fun x s4 => wpAny (model X.prog X.w) X.A (call (.builtin "set.add") [.ref D, x]) (fun _ s5 => K s5) NoE s4) NoE s
theorem loop_set {elt : Expr} : LoopOk X (.SetComp elt [⟨tg, iter, ifs, 0⟩] scope pos) tg ifs (BS X elt) := fun it D env R I turn n s h => by
  refine PpSet.compLoopS_any I (fun n s hI => noeQ (turn n s hI) fun r s1 h1 => ?_) n h
  cases r with
  | none => exact h1
  | some v =>
    refine noeQ h1 fun _ s2 h2 => noeQ h2 fun _ s3 h3 => noeQ h3 fun ok s4 h4 => ?_
    cases ok with
    | false => exact h4
    | true =>
      have h4' : BS X elt env D (fun s' => ∃ m, m < n ∧ I m s') s4 := h4
      exact noeQ h4' fun x s5 h5 => noeQ h5 fun _ s6 h6 => h6
theorem make_set : MakeOk X (newSet (.type "set")) { cls := .type "set", dict := none, data := .set #[] 0 (.fresh 0 0 (!X.w.params.followText "set-order")) } (fun D => SetK X.prog X.w D (fun _ => false) 0) :=
  ⟨fun E s Q q => PpSet.newSet_ok q, fun H h hb => setK_new ⟨_, #[], 0, _, Heap.get?_push_size _ rfl, ⟨rfl, rfl, rfl⟩, rfl, (fun e he => by simp at he), (fun k => by simp), (by decide), (by rfl), rfl⟩⟩
def tbS (P : Program) (w : World) (te : TE) : TB := fun D σ H Nx => te σ H fun y H4 => rSAddK P w (.ref D) [y] H4 fun _ H5 => Nx H5
theorem step_set {elt : Expr} {te : TE} (he : BlkIs X scope fun Y => PE Y elt te) : ∀ vs, BlkIs X scope (StepIs (BS X elt) (tbS X.prog X.w te) vs) := fun vs => fun s H C cl fp pins s9 σ H9 D Nx K I q k =>
  thn ((he s H C cl fp).run pins s9 σ H9 _ I q) fun x s4 ⟨y, H4, I4, r4, q4⟩ => by
    refine thn (mt_saddK (X := X.blk s H scope (compEnvC scope cl C X.env) fp) pins s4 σ H4 (.ref D) [y] (.ref D) [x] (fun _ H5 => Nx H5) I4 rfl (.cons r4 .nil) q4) fun _ s5 ⟨_, H5, I5, _, q5⟩ => k s5 σ H5 I5 rfl (fun j v e => (wipe_some e).1) q5
theorem pe_scK {elt : Expr} {te : TE} (hc : X.calm = true) (hN : X.N.Nodup) (hi : PI X tg iter wi) (ok : BlkOk X.N X.env.scope scope own) (hg : BlkIs X scope fun Y => PG Y tg g) (ht : BlkIs X scope fun Y => PTs Y ifs tt) (he : BlkIs X scope fun Y => PE Y elt te)
    (hs : ∀ x, foldedSetIterable iter X.env x = pure x := by intro _; rfl) : PE X (.SetComp elt [⟨tg, iter, ifs, 0⟩] scope pos) (tCm (fun D => SetK X.prog X.w D (fun _ => false) 0) wi g tt (tbS X.prog X.w te) (own.map (·.2))) := by
  refine ⟨fun pins s σ H Q I h => ?_⟩
  rw [PpSet.eval_SetComp]
  exact cm_core rfl loop_set (fun it D env R s h k => PpSet.codeAny_compStart_set h (k _)) make_set hc hN I hi ok hg ht (step_set he _) hs h
/-- len of such a set -/
theorem call_lenK : CallR X (.builtin "len") (fun xs H Q => ∃ (a : Addr) (S : Key → Bool) (n : Nat), xs = [V.ref a] ∧ H a = some (SetK X.prog X.w a S n) ∧ Q (.int n) H) := by
  intro pins s σ H xs us Q I r h
  obtain ⟨a, S, n, rfl, ha, q⟩ := h
  obtain ⟨u, rfl, ru⟩ := Vals.one r
  obtain rfl : u = Value.ref a := ru
  obtain ⟨o, es, ep, t, ho, hex, hd, h1, h2, h3, h4, h5⟩ := setK_get I ha
  subst h5
  refine call_len_set ho hex hd h4 ?_ (show EP X pins σ Q _ _ from ⟨.int _, H, I.tok _, ⟨_, rfl⟩, q⟩)
  have : scanBound < 2 ^ 62 := by decide
  omega

/-! ### a second clause: the end of a turn is a loop -/
section
variable {ce tg1 iter1 : Expr} {ifs1 : List Expr} {wi1 : TI} {g1 : TG} {tt1 : TT} {B1 : StepP} {tb1 : TB} {vs vs1 : List Nat}
def B2 (X : Cx) (ce iter1 : Expr) : StepP := fun env D K s => wpAny (model X.prog X.w) X.A (eval iter1 env) (fun x s4 => wpAny (model X.prog X.w) X.A (pyIter x) (fun it1 s5 => codeAny (model X.prog X.w) X.A (.compStart ce 1 it1 (.ref D) env) (fun r s' => match r with
  | .ok _ => K s'
  | .error _ => False) s5) NoE s4) NoE s
/-- the inner loop's own rule -/
def Loop1 (X : Cx) (ce tg1 : Expr) (ifs1 : List Expr) (B1 : StepP) : Prop := ∀ (it D : Addr) (env : Env) (R : Result → Shared → Prop) (I : Nat → Shared → Prop),
  (∀ n s, I n s → wpAny (model X.prog X.w) X.A (pyNext (.ref it)) (fun r s1 => match r with
    | none => R (.ok .next) s1
    | some v => wpAny (model X.prog X.w) X.A (letOwnedTupleGo tg1 (.ref it) v) (fun _ s2 => wpAny (model X.prog X.w) X.A (assign tg1 env v) (fun _ s3 => wpAny (model X.prog X.w) X.A (tests ifs1 env) (fun ok s4 =>
        if ok = true then B1 env D (fun s' => ∃ m, m < n ∧ I m s') s4 else ∃ m, m < n ∧ I m s4) NoE s3) NoE s2) NoE s1) NoE s) → ∀ n s, I n s → codeAny (model X.prog X.w) X.A (.compLoop ce 1 (.ref it) (.ref D) env) R s
def Start1 (X : Cx) (ce : Expr) : Prop := ∀ (it D : Addr) (env : Env) (R : Result → Shared → Prop) (s : Shared), codeAny (model X.prog X.w) X.A (.compLoop ce 1 (.ref it) (.ref D) env) R s →
  (∀ E, wpAny (model X.prog X.w) X.A (pyIter (.ref it)) (fun it' s' => codeAny (model X.prog X.w) X.A (.compLoop ce 1 it' (.ref D) env) R s') E s) → codeAny (model X.prog X.w) X.A (.compStart ce 1 (.ref it) (.ref D) env) R s
def tb2 (wi1 : TI) (g1 : TG) (tt1 : TT) (tb1 : TB) (vs1 : List Nat) : TB := fun D σ H Nx => wi1 σ H fun J H1 => ∃ W : Nat → Nat → Hp → Prop, (∃ m, W 0 m H1) ∧ ∀ i m H, W i m H →
  (J.stop i H ∧ Nx H) ∨ (J.go i H ∧ ∃ N1 : Hp → Prop, (∀ H', N1 H' → ∃ m', m' < m ∧ W (i + 1) m' H') ∧ ∀ x H', J.yld i H x H' → g1 x (wipe σ vs1) H' fun σ2 H2 => wipe σ2 vs1 = wipe σ vs1 ∧ tt1 σ2 H2 fun b H3 => if b = true then tb1 D σ2 H3 N1 else N1 H3)
theorem step2 (hc : X.calm = true) (hv : ∀ i ∈ vs1, i ∈ vs) (hL : Loop1 X ce tg1 ifs1 B1) (hSt : Start1 X ce) (hi : BlkIs X scope fun Y => PI Y tg1 iter1 wi1) (hg : BlkIs X scope fun Y => PG Y tg1 g1) (ht : BlkIs X scope fun Y => PTs Y ifs1 tt1) (hb : BlkIs X scope (StepIs B1 tb1 vs1)) :
    BlkIs X scope (StepIs (B2 X ce iter1) (tb2 wi1 g1 tt1 tb1 vs1) vs) := fun s0 H0 C0 cl0 fp0 pins s9 σ H9 D Nx K I q k => by
  have pi1 := hi s0 H0 C0 cl0 fp0
  have pg1 := hg s0 H0 C0 cl0 fp0
  have pt1 := ht s0 H0 C0 cl0 fp0
  have pb1 := hb s0 H0 C0 cl0 fp0
  generalize hY : X.blk s0 H0 scope (compEnvC scope cl0 C0 X.env) fp0 = Y at I pi1 pg1 pt1 pb1 k
  have yP : Y.prog = X.prog := by rw [← hY]
  have yw : Y.w = X.w := by rw [← hY]
  have yA : Y.A = X.A := by rw [← hY]
  have yc : Y.calm = true := by rw [← hY]; exact hc
  have ye : compEnvC scope cl0 C0 X.env = Y.env := by rw [← hY]
  have yx : Y.xe = NoE := by rw [← hY]
  have rI := pi1.run pins s9 σ H9 _ I q
  rw [yP, yw, yA, yx] at rI
  refine thn rI fun xv s10 hx => thn hx fun itv s11 h11 => ?_
  obtain ⟨it, fp, tn, J, H11, rfl, I11, T, st11, f11, W, ⟨m0, w0⟩, turn⟩ := h11
  have stat : ∀ {H' : Hp}, (∀ b ∈ fp, H' b = none) → ∀ b ∈ fp, FpOk Y pins H' b := fun hn b hb => ⟨hn b hb, (f11 b hb).2⟩
  have loop : codeAny (model X.prog X.w) X.A (.compLoop ce 1 (.ref it) (.ref D) Y.env) (fun r s' => match r with
      | .ok _ => K s'
      | .error _ => False) s11 := by
    refine hL it D Y.env _ (fun n s' => ∃ i H', Inv Y pins (wipe σ vs1) H' s' ∧ tn i s'.heap ∧ (∀ b ∈ fp, H' b = none) ∧ W i n H') ?_ m0 s11 ⟨0, H11, I11.weak (wipe_length _ _) (fun j v e => (wipe_some e).1), st11, fun b hb => (f11 b hb).1, w0⟩
    rintro n s12 ⟨i, H12, I12, st12, n12, w12⟩
    rcases turn i n H12 w12 with ⟨stop, nx⟩ | ⟨go, N1, hN1, step⟩
    · have td := T.done Y rfl rfl rfl yc i pins s12 (wipe σ vs1) H12 NoE I12 (stat n12) st12 stop
      rw [yP, yw, yA] at td
      refine thn td fun r s13 ⟨hr, I13⟩ => ?_
      subst hr
      exact k s13 _ H12 I13 (wipe_length _ _) (fun j v e => by
        obtain ⟨e1, e2⟩ := wipe_some e
        rw [wipe_out fun z => e2 (hv j z)]
        exact e1) nx
    · have ti := T.item Y rfl rfl rfl yc i pins s12 (wipe σ vs1) H12 NoE I12 (stat n12) st12 go
      rw [yP, yw, yA] at ti
      refine thn ti fun r s13 ⟨u, hr, h13⟩ => ?_
      subst hr
      refine thn h13 fun _ s14 ⟨x, H14, I14, r14, y14, st14, n14⟩ => ?_
      have I14' := I14.pinned (stat n14) (T.obj _ _ st14)
      have rg := pg1.run _ s14 (wipe σ vs1) H14 x u _ I14' r14 (step x H14 y14)
      rw [yP, yw, yA, yx] at rg
      refine thn rg fun _ s15 ⟨σ15, H15, I15, hw15, q15⟩ => ?_
      have rt := pt1.run _ s15 σ15 H15 _ I15 q15
      rw [yP, yw, yA, yx] at rt
      refine thn rt fun b s16 ⟨H16, I16, q16⟩ => ?_
      have fin : ∀ {s' : Shared} {σ' : L2.St} {H' : Hp}, Inv Y (pins ++ pinsAt fp s14.heap) σ' H' s' → σ'.length = σ15.length → (∀ (j : Nat) v, (wipe σ15 vs1)[j]? = some (some v) → σ'[j]? = some (some v)) → N1 H' → ∃ m, m < n ∧ ∃ i H', Inv Y pins (wipe σ vs1) H' s' ∧ tn i s'.heap ∧ (∀ b ∈ fp, H' b = none) ∧ W i m H' := fun {s' σ' H'} I' hl hk nx => by
        obtain ⟨m', hm, w'⟩ := hN1 H' nx
        have pin' : ∀ b ∈ fp, ∀ o, s14.heap.get? b = some o → s'.heap.get? b = some o ∧ H' b = none := fun b hb o e =>
          let z := I'.pin (b, o) (List.mem_append_right _ (List.mem_append_right _ (mem_pinsAt hb e)))
          ⟨z.1, z.2.1⟩
        refine ⟨m', hm, i + 1, H', I'.unpinned.weak (by rw [hl, ← hw15, wipe_length]) (fun j v e => hk j v (by rw [hw15]; exact e)), T.keep _ _ _ st14 fun b hb o e => (pin' b hb o e).1, fun b hb => ?_, w'⟩
        obtain ⟨o, e, _⟩ := T.obj _ _ st14 b hb
        exact (pin' b hb o e).2
      cases b with
      | false =>
        simp only [Bool.false_eq_true, if_false] at q16 ⊢
        exact fin I16 rfl (fun j v e => (wipe_some e).1) q16
      | true =>
        simp only [if_true] at q16 ⊢
        exact pb1 _ s16 σ15 H16 D N1 _ I16 q16 fun s' σ' H' I' hl hk nx => fin I' hl hk nx
  have self := T.self X.A 0 s11 (fun it' s' => codeAny (model X.prog X.w) X.A (.compLoop ce 1 it' (.ref D) Y.env) (fun r s' => match r with
      | .ok _ => K s'
      | .error _ => False) s') 
  exact hSt it D Y.env _ s11 loop fun E => by
    have z := self E st11 loop
    rw [yP, yw] at z
    exact z
end

/-! ### {k: v for tg in iter for tg1 in iter1} -/
section
variable {tg1 iter1 : Expr} {ifs1 : List Expr}
abbrev dc2 (kx vx tg iter tg1 iter1 : Expr) (ifs ifs1 : List Expr) (scope : Scope) (pos : Pos) : Expr := .DictComp kx vx [⟨tg, iter, ifs, 0⟩, ⟨tg1, iter1, ifs1, 0⟩] scope pos
theorem turn_out (it acc : Value) (env : Env) : compTurn (dc2 kx vx tg iter tg1 iter1 ifs ifs1 scope pos) 0 it acc env = (do
      standAt iter.pos
      match ← pyNext it with
      | none => pure (.done .next)
      | some v =>
        letOwnedTupleGo tg it v
        assign tg env v
        let mut ok := true
        for c in ifs do
          if ok then ok ← isTrue c env (eval c env)
        if ok then
          let x ← eval iter1 env
          standAt iter1.pos
          let x ← foldedSetIterable iter1 env x
          let _ ← runOwn (.compStart (dc2 kx vx tg iter tg1 iter1 ifs ifs1 scope pos) 1 (← holding [x] (pyIter x)) acc env) env
        again (.compLoop (dc2 kx vx tg iter tg1 iter1 ifs ifs1 scope pos) 0 it acc env)) := by rfl
theorem turn_in (it : Value) (D : Addr) (env : Env) : compTurn (dc2 kx vx tg iter tg1 iter1 ifs ifs1 scope pos) 1 it (.ref D) env = (do
      standAt iter1.pos
      match ← pyNext it with
      | none => pure (.done .next)
      | some v =>
        letOwnedTupleGo tg1 it v
        assign tg1 env v
        let mut ok := true
        for c in ifs1 do
          if ok then ok ← isTrue c env (eval c env)
        if ok then
          (do
            let kv ← eval kx env
            let vv ← holding [kv] (eval vx env)
            standAt { kx.pos with endLine := vx.pos.endLine, endCol := vx.pos.endCol }
            holding [kv, vv] (dictSet D kv vv))
        again (.compLoop (dc2 kx vx tg iter tg1 iter1 ifs ifs1 scope pos) 1 it (.ref D) env)) := by rfl
theorem loop_out (hs1 : ∀ env x, foldedSetIterable iter1 env x = pure x) : LoopOk X (dc2 kx vx tg iter tg1 iter1 ifs ifs1 scope pos) tg ifs (B2 X (dc2 kx vx tg iter tg1 iter1 ifs ifs1 scope pos) iter1) := fun it D env R I turn n s h => by
  refine codeAny_loop rfl I (fun n s hI => ?_) n h
  show wpAny _ _ ((compTurn (dc2 kx vx tg iter tg1 iter1 ifs ifs1 scope pos) 0 (.ref it) (.ref D) env).onRaise (fun x => do noteFrame x env; theTreesLotGoes x)) _ _ s
  refine wpAny_noted ?_
  rw [turn_out]
  refine wpAny_bind (wpAny_standAt (wpAny_bind (noeQ (turn n s hI) fun r s1 h1 => ?_)))
  cases r with
  | none => exact wpAny_pure h1
  | some v =>
    refine wpAny_bind (noeQ h1 fun _ s2 h2 => wpAny_bind (noeQ h2 fun _ s3 h3 => wpAny_bind (noeQ h3 fun ok s4 h4 => ?_)))
    cases ok with
    | false => exact wpAny_pure ⟨rfl, h4⟩
    | true =>
      have h4' : B2 X (dc2 kx vx tg iter tg1 iter1 ifs ifs1 scope pos) iter1 env D (fun s' => ∃ m, m < n ∧ I m s') s4 := h4
      refine wpAny_bind (noeQ h4' fun x s5 h5 => ?_)
      refine wpAny_bind (wpAny_standAt (wpAny_bind (wpAny_of_eq (hs1 env x) (wpAny_bind (wpAny_holding (noeQ h5 fun it1 s6 h6 => ?_))))))
      refine wpAny_bind (wpAny_runOwn ?_)
      rw [Around.mark_none]
      refine codeAny_mono h6 fun r s' hr => ?_
      cases r with
      | ok f =>
        first
          | exact wpAny_pure ⟨rfl, hr⟩
          | exact wpAny_bind (wpAny_pure (wpAny_pure ⟨rfl, hr⟩))
      | error e => exact hr.elim
theorem loop_in : Loop1 X (dc2 kx vx tg iter tg1 iter1 ifs ifs1 scope pos) tg1 ifs1 (BD X kx vx) := fun it D env R I turn n s h => by
  refine codeAny_loop rfl I (fun n s hI => ?_) n h
  show wpAny _ _ ((compTurn (dc2 kx vx tg iter tg1 iter1 ifs ifs1 scope pos) 1 (.ref it) (.ref D) env).onRaise (fun x => do noteFrame x env; theTreesLotGoes x)) _ _ s
  refine wpAny_noted ?_
  rw [turn_in]
  refine wpAny_bind (wpAny_standAt (wpAny_bind (noeQ (turn n s hI) fun r s1 h1 => ?_)))
  cases r with
  | none => exact wpAny_pure h1
  | some v =>
    refine wpAny_bind (noeQ h1 fun _ s2 h2 => wpAny_bind (noeQ h2 fun _ s3 h3 => wpAny_bind (noeQ h3 fun ok s4 h4 => ?_)))
    cases ok with
    | false => exact wpAny_pure ⟨rfl, h4⟩
    | true =>
      have h4' : BD X kx vx env D (fun s' => ∃ m, m < n ∧ I m s') s4 := h4
      exact wpAny_bind (wpAny_bind (noeQ h4' fun kv s5 h5 => wpAny_bind (wpAny_holding (noeQ h5 fun vv s6 h6 => wpAny_bind (wpAny_standAt (wpAny_holding (noeQ h6 fun _ s7 h7 => wpAny_pure ⟨rfl, h7⟩)))))))
theorem start_in : Start1 X (dc2 kx vx tg iter tg1 iter1 ifs ifs1 scope pos) := fun it D env R s h0 h => by
  refine codeAny_of_tree ?_
  show wpAny _ _ ((compStart (dc2 kx vx tg iter tg1 iter1 ifs ifs1 scope pos) 1 (.ref it) (.ref D) env).onRaise (fun x => do noteFrame x env; standAt theWindowsPlace)) _ _ s
  refine wpAny_notedAt ?_
  unfold compStart
  show wpAny _ _ (ask >>= _) _ _ s
  refine wpAny_bind (wpAny_askSetting (wpAny_ite ?_))
  split
  · first
      | exact wpAny_bind (wpAny_pure (wpAny_pure (And.intro rfl h0)))
      | exact wpAny_pure (And.intro rfl h0)
  · refine wpAny_bind (wpAny_rule ?_)
    show wpAny _ _ (standAt iter1.pos >>= _) _ _ s
    exact wpAny_bind (wpAny_standAt (wpAny_bind (wpAny_mono (h _) (fun it' s' h' => wpAny_pure (And.intro rfl h')) fun _ _ x => x)))
/-- as a value; keys are tuples -/
theorem pe_dc2T {wi1 : TI} {g1 : TG} {tt1 : TT} {vs1 : List Nat} (hu : X.A.units + 1 < cLine) (hc : X.calm = true) (hN : X.N.Nodup) (hi : PI X tg iter wi) (ok : BlkOk X.N X.env.scope scope own) (hv1 : ∀ i ∈ vs1, i ∈ own.map (·.2)) (hg : BlkIs X scope fun Y => PG Y tg g) (ht : BlkIs X scope fun Y => PTs Y ifs tt)
    (hi1 : BlkIs X scope fun Y => PI Y tg1 iter1 wi1) (hg1 : BlkIs X scope fun Y => PG Y tg1 g1) (ht1 : BlkIs X scope fun Y => PTs Y ifs1 tt1) (hk : BlkIs X scope fun Y => PE Y kx tk) (hv : BlkIs X scope fun Y => PE Y vx tv)
    (hs : ∀ x, foldedSetIterable iter X.env x = pure x := by intro _; rfl) (hs1 : ∀ env x, foldedSetIterable iter1 env x = pure x := by intro _ _; rfl) :
    PE X (.DictComp kx vx [⟨tg, iter, ifs, 0⟩, ⟨tg1, iter1, ifs1, 0⟩] scope pos) (tCm (fun _ => .dT []) wi g tt (tb2 wi1 g1 tt1 (tbD tk tv) vs1) (own.map (·.2))) := by
  refine ⟨fun pins s σ H Q I h => ?_⟩
  rw [arm_eval_DictComp]
  exact cm_core rfl (loop_out hs1) start_dict make_dT hc hN I hi ok hg ht (step2 hc hv1 loop_in start_in hi1 hg1 ht1 (step_dict hu hk hv _)) hs h
end
end
end Gs

set_option Elab.async false
set_option linter.all false
set_option maxRecDepth 100000
set_option maxHeartbeats 4000000
/-! GsG: defs whose promise may use that no repr is under way; repr of data; the law's end with it. -/
namespace Gs
open PySem PySem.Spec PyProof.Rows L2 Evl

/-! ### the promise, where no repr is under way -/
structure FnG (P : Program) (w : World) (K : PySem.W.Frag) (mg : Str → Option Value) (base : Heap) (k : Nat) (f : Addr) (fd : FuncData) (ps : List Str) (sp : Sp) : Prop where
  len : ∀ vs H Q E, sp vs H Q E → vs.length = ps.length
  run : ∀ (A : Around) (outer : List Env) (s : Shared) (H : Hp) (args : Args) (us : List Value) (vs : List V) (Q : VK) (E : XK),
    Room k A → A.guards = some [] → Env0 P w K mg base A outer s H → BindsTo s fd args (ps.zip us) → Vals vs us → sp vs H Q E →
    codeAny (model P w) A (.call (.ref f) args) (CR L2.CX0 outer P w H s Q E) s

theorem fnG_of {P : Program} {w : World} {K : PySem.W.Frag} {mg : Str → Option Value} {base : Heap} {x qual : Str} {st : Stmt} {f : Addr} {fd : FuncData} {N ps : List Str} {k : Nat} {sp : Sp} (F : L2.Fun K x qual st f fd) (S : FnScope N ps (defScope st))
    (len : ∀ vs H Q E, sp vs H Q E → vs.length = ps.length)
    (hbody : ∀ (cdv : Value) (A : Around) (outer : List Env) (s : Shared) (H : Hp) (vs : List V) (Q : VK) (E : XK),
      Room k (A.deeper (envOfC qual (defScope st) s.heap.objs.size f cdv)) → A.guards = some [] → sp vs H Q E →
      ∃ t, PSs (cxOf L2.CX0 P w K mg base N qual (defScope st) f cdv A outer s H E).nox (defBody st) t ∧ t { nx := fun _ H' => Q .non H', rt := Q } (start N vs) H) :
    FnG P w K mg base (k + 1) f fd ps sp := by
  obtain ⟨oc, od, kV, doc, pm, an, cdv, ct, osl, rfl, lk, hcd⟩ := F.ex
  constructor
  · exact len
  intro A outer s H args us vs Q E hr hgd e0 hb r hsp
  have K1 : K.In s.heap := e0.mod.kin.keeps fun b o e => (e0.bs b o e).1
  have L1 : s.heap.NoLimit := e0.mod.nolimit.keeps fun b o e => (e0.bs b o e).1
  refine codeAny_call_function hr.depth (K1 _ _ lk) rfl S.co S.gen rfl (PySem.W.codeRec_of K1 hcd) (hb _ _ _ _ ?_)
  refine wpAny_newFunctionEnv_cells S.kind (fun y hy => ?_) fun env he s1 z => ?_
  · obtain ⟨n, v⟩ := y
    cases S.par n (List.of_mem_zip hy).1 with
    | inl q => exact .inl q
    | inr q => exact .inr ⟨q, PySem.W.cellsFrom_some _ _ _ (.inl q)⟩
  · subst he
    refine ⟨L1.keeps z.toInCall.keep, codeAny_func ?_⟩
    obtain ⟨t, ht, hq⟩ := hbody cdv A outer s H vs Q E (hr.deeper _) hgd hsp
    have I := inv_start (CX := L2.CX0) (E := E) S hr.hd e0 (len _ _ _ _ hsp) r z
    refine wpAny_mono (ht.nox.run [] s1 (start N vs) H _ I hq) (fun fl s' hs => ?_) fun e s' hs => hs
    cases fl with
    | ret u =>
      obtain ⟨v, _, H', J, rv, q⟩ := hs
      exact ⟨v, H', J.os, J.bare, J.base, J.hok, rv, q⟩
    | next =>
      obtain ⟨_, H', J, q⟩ := hs
      exact ⟨.non, H', J.os, J.bare, J.base, J.hok, rfl, q⟩
    | brk => obtain ⟨_, _, _, q⟩ := hs; exact q.elim
    | cont => obtain ⟨_, _, _, q⟩ := hs; exact q.elim

section
variable {X : Cx} {k : Nat} {f : Addr} {fd : FuncData} {ps : List Str} {sp : Sp} {x : Str} {p pos : Pos} {e : Expr} {es : List Expr} {t : TA}
theorem pe_callG (F : FnG X.prog X.w X.K X.mg X.base k f fd ps sp) (hr : Room k X.A) (hgd : X.A.guards = some []) (hg : Gl X x) (hm : X.mg x = some (.ref f)) (hk : PySem.W.keepIn X.K (.ref f) = true) (hb : Binds X.K fd ps [])
    (ha : PA X (e :: es) t) (hdb : (x == ("__debug__" : Str)) = false := by decide) (he : starEach (e :: es) X.env = (false, eval e X.env) :: starEach es X.env := by rfl)
    (hpl : (backTo pos (starEach es X.env)).any (·.1) = false := by rfl) : PE X (.Call (.Name x p) (e :: es) [] pos) (tCall sp [] E0 t) := by
  constructor
  intro pins s σ H Q I h
  refine wpAny_Call_Name_kw (ld_glob I hg hm ?_ hdb)
  refine PySem.W.callWith_K (h₀ := X.base) I.ok.mod.kin hk (thn (ha.run pos pins s σ H _ I h) fun us s1 ⟨vs, H1, I1, r, q⟩ => ⟨I1.kIn, ?_⟩) he hpl
  have q' : sp vs H1 Q E0 := by rw [← List.append_nil vs]; exact q
  have hl : us.length = ps.length := by rw [← r.length]; exact F.len _ _ _ _ q'
  have hbd := hb s1 us I1.kIn (by rw [List.append_nil]; exact hl)
  rw [List.append_nil] at hbd
  refine wpAny_call (codeAny_mono (F.run X.A X.stack s1 H1 ⟨us, []⟩ us vs Q E0 hr hgd I1.env0 hbd r q') fun r2 s' hq => ?_)
  cases r2 with
  | error e => exact hq.elim
  | ok fl =>
    cases fl with
    | ret u => exact I1.after hq
    | next => exact hq.elim
    | brk => exact hq.elim
    | cont => exact hq.elim

/-! ### repr of data -/
def ShOk (d : PyData) : Prop := d.showable = true ∧ d.hasDict = false ∧ d.depth ≤ 20 ∧ d.shown.length ≤ sizeLine
theorem call_reprD (hgd : X.A.guards = some []) (hu : X.A.units + 64 < cLine) : CallR X (.builtin "repr") (fun xs H Q => ∃ v d, xs = [v] ∧ Dp X.K H v d ∧ ShOk d ∧ Q (.str d.shown) H) := by
  intro pins s σ H xs us Q I r h
  obtain ⟨v, d, rfl, hd, ⟨h1, h2, h3, h4⟩, q⟩ := h
  obtain ⟨u, rfl, ru⟩ := vals1 r
  obtain ⟨as, hr⟩ := Dp.reads I d v u hd ru
  have big : ∀ {a : Addr}, u = .ref a → wpAny (model X.prog X.w) X.A (call (.builtin "repr") [u]) (EP X pins σ Q) X.xe s := fun {a} e => by
    subst e
    refine repr_of_reads' (h₀ := s.heap) hr h1 (fun z => by rw [h2] at z; cases z) hgd (by omega) (fun _ _ e => e) (fun h' t tk hk => ?_) h4
    exact ⟨.str d.shown, H, I.kept hk, ⟨_, rfl⟩, q⟩
  cases hd with
  | non => cases ru; exact PySem.P.repr_of_none ⟨.str "None", H, I.tok _, ⟨_, rfl⟩, q⟩
  | bl b => cases ru; exact PySem.P.repr_of_bool ⟨.str _, H, I.tok _, ⟨_, rfl⟩, q⟩
  | int i =>
    obtain ⟨t, rfl⟩ := ru
    exact PySem.P.repr_of_int (of_decide_eq_true h1) ⟨.str _, H, I.tok _, ⟨_, rfl⟩, q⟩
  | str y =>
    obtain ⟨t, rfl⟩ := ru
    exact PySem.P.repr_of_str ⟨.str _, H, I.tok _, ⟨_, rfl⟩, q⟩ h4
  | lst _ _ => exact big ru
  | tup _ _ => exact big ru
theorem ep_repr {σ : L2.St} {N : Hp} {te : TE} {d : PyData} {K : PySem.W.Frag} (h : EvP te σ N (mD K d)) (ok : ShOk d) : Ev (tCB (fun xs H Q => ∃ v d, xs = [v] ∧ Dp K H v d ∧ ShOk d ∧ Q (.str d.shown) H) (tCons te tNil)) σ N (.str d.shown) := fun C e Q q =>
  h C e _ fun v N1 C1 g p => ⟨v, d, rfl, dp_mono g.sub p, ok, q C1 g.ext⟩
end

/-! ### the law's end -/
theorem law_callG {P : Program} {w : World} {K : PySem.W.Frag} {mg mb : Str → Option Value} {k : Nat} {fa a : Addr} {fd : FuncData} {x : Str} {sp : Sp} {s₁ : Shared} {vs : List Value} {ns : List Int}
    (KX : K.In s₁.heap) (hns : s₁.heap.Ns mainGlobals mg) (hb : s₁.heap.Ns builtinsNs mb) (hbb : ∀ x : Str, x ≠ "__name__" → mb x = bootBuiltins x) (hlim : s₁.heap.NoLimit) (hg : s₁.gens = #[])
    (ha : s₁.heap.get? a = some { cls := .type "list", data := .seq vs.toArray }) (hi : IntsAre vs ns) (hl : ns.length ≤ sizeLine) (hr : Room k callerA)
    (F : ∀ base : Heap, K.In base → base.Ns mainGlobals mg → FnG P w K mg base k fa fd [x] sp) (hbind : ∀ (s : Shared) (u : Value), BindsTo s fd ⟨[u], []⟩ [(x, u)])
    (hsp : ∀ H : Hp, Only H → SqL K H a (ns.map V.int) → sp [.ref a] H (fun v _ => v = .bl true) fun _ _ _ => False) :
    codeAny (model P w) callerA (.call (.ref fa) ⟨[.ref a], []⟩) (fun r s' => r = .ok (.ret (.bool true)) ∧ OldK s₁.heap s'.heap ∧ s'.os = s₁.os ∧ AllBare s'.gens) s₁ := by
  have rv := vals_ints hi
  have lenV := hi.length
  have core : ∀ H : Hp, Only H → SqL K H a (ns.map V.int) → HOk P w H s₁.heap → (∀ b, H b ≠ none → b = a) → (H a ≠ none → K.lookup a = none) →
      codeAny (model P w) callerA (.call (.ref fa) ⟨[.ref a], []⟩) (fun r s' => r = .ok (.ret (.bool true)) ∧ OldK s₁.heap s'.heap ∧ s'.os = s₁.os ∧ AllBare s'.gens) s₁ := by
    intro H hO hS hok hA hK
    have isA : ∀ {b : Addr}, H b ≠ none → b = a ∧ K.lookup b = none := fun {b} n => by
      have e := hA b n
      subst e
      exact ⟨rfl, hK n⟩
    have noD : ∀ {b : Addr} {o : Obj} {es : Array DictEntry} {ep : Nat}, s₁.heap.get? b = some o → o.data = .dict es ep → H b = none := fun {b o es ep} e d => Decidable.byContradiction fun n => by
      obtain ⟨rfl, _⟩ := isA n
      rw [ha] at e
      cases e
      have d' : Data.seq vs.toArray _ = Data.dict es ep := d
      cases d'
    have nsH : ∀ {b : Addr} {m : Str → Option Value}, s₁.heap.Ns b m → (hidT s₁.heap H).Ns b m := fun {b m} ⟨o, es, ep, e, d, r⟩ => ⟨o, es, ep, hidT_get e (noD e d), d, r⟩
    have inH : K.In (hidT s₁.heap H) := fun b o e => hidT_get (KX b o e) (Decidable.byContradiction fun n => by
      rw [(isA n).2] at e
      cases e)
    have modH : Mod K mg (hidT s₁.heap H) := ⟨inH, nsH hns, ⟨mb, nsH hb, hbb⟩, by
      obtain ⟨mc, h1, h2⟩ := hlim
      exact ⟨mc, nsH h1, h2⟩⟩
    have e0 : Env0 P w K mg (hidT s₁.heap H) callerA [] s₁ H := ⟨rfl, modH, fun b o e => of_hidT e, Nat.le_of_eq (hidT_size _ _), trivial, fun b hb => absurd (show b ∈ ([] : List Addr) from hb) (by simp), hok, .of_eq hg⟩
    have run := (F _ inH (nsH hns)).run callerA [] s₁ H ⟨[.ref a], []⟩ [.ref a] [.ref a] _ _ hr rfl e0 (hbind s₁ (.ref a)) (.cons rfl .nil) (hsp H hO hS)
    refine codeAny_mono run fun r s' h => ?_
    cases r with
    | error e => exact False.elim h
    | ok fl =>
      cases fl with
      | next => exact False.elim h
      | brk => exact False.elim h
      | cont => exact False.elim h
      | ret u =>
        obtain ⟨v, H', os, bare, un, hok', r', rfl⟩ := h
        obtain rfl : u = Value.bool true := r'
        refine ⟨rfl, OldK.of_keep fun b o e => ?_, os, bare⟩
        rcases hO b with z | ⟨ob, xs, z⟩
        · exact un.keep b o e z (fun y => absurd (show b ∈ ([] : List Addr) from y) (by simp)) (by simp)
        · have e1 := (hok b _ z).1
          have e2 := (hok' b _ (un.frzs b ob _ z)).1
          rw [e] at e1
          cases e1
          exact e2
  cases hk : K.lookup a with
  | some o =>
    have e := KX a o hk
    rw [ha] at e
    cases e
    refine core (fun _ => none) (fun _ => .inl rfl) (.inr ⟨_, vs.toArray, _, hk, rfl, rfl, rfl, ?_, by simpa using rv⟩) (fun b u z => by cases z) (fun b z => absurd rfl z) fun z => absurd rfl z
    rw [List.size_toArray, lenV]
    exact hl
  | none =>
    let one : HO := .frz { cls := .type "list", data := .seq vs.toArray } (.lst (ns.map V.int))
    let H1 : Hp := fun b => if b = a then some one else none
    have at1 : H1 a = some one := if_pos rfl
    have out1 : ∀ {b : Addr}, b ≠ a → H1 b = none := fun h => if_neg h
    refine core H1 (fun b => ?_) (.inl (.inr ⟨_, at1⟩)) (fun b u z => ?_) (fun b z => Decidable.byContradiction fun n => z (out1 n)) fun _ => hk
    · by_cases hb : b = a
      · subst hb; exact .inr ⟨_, _, at1⟩
      · exact .inl (out1 hb)
    · by_cases hb : b = a
      · subst hb
        rw [at1] at z
        cases z
        exact ⟨ha, by rw [List.length_map]; exact hl, vs, _, rv, ha⟩
      · rw [out1 hb] at z
        cases z
theorem walk_ofG {l : PySem.W.OpenLaw} {n k : Nat} {q : Program} {loose : List Str} {XP : (Str → Option Value) → Heap → Prop} {YP : World → Heap → Prop} {d : DefRec} {x : Str}
    (hn : l.most = some n) (hn2 : n ≤ sizeLine) (hdf : d.params.defaults = []) (hr : Room k callerA)
    (F : ∀ (w : World) (mg : Str → Option Value) (fa : Addr) (h : Heap), YP w h → h.Ns mainGlobals mg → mg d.name = some (.ref fa) →
      ∃ (K : PySem.W.Frag) (fd : FuncData) (sp : Sp), K.In h ∧ (∀ (s : Shared) (u : Value), BindsTo s fd ⟨[u], []⟩ [(x, u)]) ∧
        (∀ (H : Hp) (a : Addr) (ns : List Int), ns.length ≤ n → Only H → SqL K H a (ns.map V.int) → sp [.ref a] H (fun v _ => v = .bl true) fun _ _ _ => False) ∧
        ∀ base : Heap, K.In base → base.Ns mainGlobals mg → FnG l.prog w K mg base k fa fd [x] sp) :
    PySem.W.WalkO q loose XP YP l.row.toRowW d [] (fun f vs => PySem.call f vs) := by
  refine Att.attach_call hn hdf fun w s₀ s₁ mg mb fa o pm cd doc a vs ns G Y ho hd hcd hmg hobj hints hlen hg => ?_
  obtain ⟨K, fd, sp, KX, hb, hsp, hF⟩ := F w mg fa _ Y G.T.g hmg
  exact law_callG KX G.T.g G.T.b G.T.builtins G.T.nolimit hg hobj hints (Nat.le_trans hlen hn2) hr hF hb fun H hO hS => hsp H a ns hlen hO hS
end Gs

set_option Elab.async false
set_option linter.all false
set_option maxRecDepth 100000
set_option maxHeartbeats 4000000
/-! GsExc: an exception class over RuntimeError by way of an own base; its __init__ is walked as a def. -/
namespace Gs
open PySem PySem.Spec PyProof.Rows L2 Evl

abbrev rtB : List Value := [.type "RuntimeError", .type "Exception", .type "BaseException", .type "object"]
structure RexC (K : PySem.W.Frag) (C : Addr) : Prop where
  ini : PySem.W.excInitIn K C rtB "RuntimeError.__new__" = true
  ovr : PySem.W.excOver K C rtB = true
  hdc : PySem.W.hasDictIn K C = true
  sa : PySem.W.findIn K (.ref C) "__setattr__" = some (some (.builtin "object.__setattr__"))
  exC : PySem.W.subIn K (.ref C) (.type "BaseException") = some true
  tyC : PySem.W.typeIn K (.ref C) = some (.type "type")
  kC : PySem.W.keepIn K (.ref C) = true

section
open PySem.W PySem.Calls PyProof.Rows PySem.HandSPX
open Builtin Builtin.ObjectAttr
variable {prog : Program} {w : World} {A : Around} {E : Value → Shared → Prop} {R : Result → Shared → Prop} {hp : Heap} {g : Array GenState} {d : Drawn} {t : Nat} {os : OsState}
theorem taker_none {K : W.Frag} {C : Addr} {name : Str} (h : W.findIn K (.ref C) name = some none) : W.takerIn K C name = some none := by unfold W.takerIn; rw [h] <;> rfl
theorem rex_cd {K : W.Frag} {C : Addr} (h : W.hasDictIn K C = true) : ∃ cd, W.clsIn K C = some cd ∧ cd.hasDict = true := any_some h
theorem rosa_new {K : W.Frag} {name : Str} {tk : Tok} {v : Value} {x C : Addr} {fv : Array Value}
    (T : RexC K C) (X : K.In hp) (hx : hp.get? x = some { cls := .ref C, data := .fields fv }) (ha : W.findIn K (.ref C) name = some none)
    (hq : ∀ h' tk' dx, (∀ b o, b ≠ x → hp.get? b = some o → h'.get? b = some o) → hp.objs.size ≤ dx → dx ≠ x → h'.get? x = some { cls := .ref C, dict := some dx, data := .fields fv } →
      h'.Ns1 dx (fun y => if y = name then some v else none) → R (.ok (.ret .none)) ⟨h', g, d, tk', os⟩) :
    codeAny (model prog w) A (.call (.builtin "object.__setattr__") ⟨[.ref x, .str name tk, v], []⟩) R ⟨hp, g, d, t, os⟩ := by
  have I : W.InstAt hp x { cls := .ref C, data := .fields fv } C none := ⟨hx, rfl, rfl, trivial⟩
  have hxs : x ≠ hp.objs.size := Nat.ne_of_lt (Heap.lt_size hx)
  obtain ⟨cd, hcd, hh⟩ := rex_cd T.hdc
  have hcls : W.Looks (model prog w) hp (classData C) cd := W.looks_clsIn X hcd
  refine W.osa_openX PySem.F.store_RuntimeError X I T.ovr (taker_none ha) fun b => ?_
  show wpAny _ _ (storeInOwnDict (.ref x) (.ref C) (.str name tk) name v b) _ _ _
  obtain ⟨nm, bs, mro, ns, qn, hd, sn, sb, ab, col, del⟩ := cd
  dsimp only at hh
  subst hh
  unfold storeInOwnDict ownDictForStores
  repeat (first | with_reducible refine store_in_new ?_ ?_ | with_reducible refine wpAny_loadPart_at hx ?_ | with_reducible refine hcls.at ?_ | wp_step)
  · exact ⟨_, #[], _, (Heap.get?_update_ne _ _ _ _ hxs.symm).trans (Heap.get?_push_at rfl rfl), rfl, fun e he => absurd he (by simp), fun _ => rfl⟩
  · intro h' tk' hn' hs
    have hx₁ : (hp.push { cls := .type "dict", data := .dict #[] }).get? x = some { cls := .ref C, data := .fields fv } := Heap.get?_push_of_some _ hx
    refine hq h' tk' hp.objs.size (fun b o hb ho => ?_) (Nat.le_refl _) hxs.symm ?_ hn'
    · exact (hs.2 b (Nat.ne_of_lt (Heap.lt_size ho))).trans ((Heap.get?_update_ne _ _ _ _ hb).trans (Heap.get?_push_of_some _ ho))
    · exact (hs.2 x hxs).trans (Heap.get?_update_self _ hx₁ rfl)
theorem rosa_old {K : W.Frag} {name : Str} {tk : Tok} {v : Value} {x C dx : Addr} {fv : Array Value} {m0 : Str → Option Value} {nl : List Str}
    (T : RexC K C) (X : K.In hp) (hx : hp.get? x = some { cls := .ref C, dict := some dx, data := .fields fv }) (hns : hp.Ns1 dx m0) (hw : Within m0 nl) (hz : nl.length ≤ 1000) (ha : W.findIn K (.ref C) name = some none)
    (hq : ∀ h' tk', (∀ b o, b ≠ dx → hp.get? b = some o → h'.get? b = some o) → h'.Ns1 dx (fun y => if y = name then some v else m0 y) → R (.ok (.ret .none)) ⟨h', g, d, tk', os⟩) :
    codeAny (model prog w) A (.call (.builtin "object.__setattr__") ⟨[.ref x, .str name tk, v], []⟩) R ⟨hp, g, d, t, os⟩ := by
  obtain ⟨oD, esD, epD, hoD, hdD, _⟩ := hns.count hw
  have I : W.InstAt hp x { cls := .ref C, dict := some dx, data := .fields fv } C (some oD) := ⟨hx, rfl, rfl, hoD⟩
  obtain ⟨cd, hcd, hh⟩ := rex_cd T.hdc
  have hcls : W.Looks (model prog w) hp (classData C) cd := W.looks_clsIn X hcd
  refine W.osa_openX PySem.F.store_RuntimeError X I T.ovr (taker_none ha) fun b => ?_
  show wpAny _ _ (storeInOwnDict (.ref x) (.ref C) (.str name tk) name v b) _ _ _
  obtain ⟨nm, bs, mro, ns, qn, hd, sn, sb, ab, col, del⟩ := cd
  dsimp only at hh
  subst hh
  unfold storeInOwnDict ownDictForStores
  repeat (first | with_reducible refine PySem.OEX.store_in_old hns hw hz ?_ | with_reducible refine wpAny_loadPart_at hx ?_ | with_reducible refine hcls.at ?_ | wp_step)
  intro h' tk' hn' hs
  exact hq h' tk' (fun b o hb ho => (hs.2 b hb).trans ho) hn'
end

section
variable {X : Cx} {pins : List (Addr × Obj)} {σ : L2.St} {H : Hp} {s : Shared} {a C dx : Addr} {f : Str} {y : V} {u : Value} {fs : List (Str × V)} {Q : Unit → Shared → Prop} {E : Value → Shared → Prop} {A : Around}
theorem rst_new (T : RexC X.K C) (I : Inv X pins σ H s) (e : H a = some (exo a C none)) (hno : PySem.W.findIn X.K (.ref C) f = some none) (ry : RelV y u)
    (h : ∀ dx s', H dx = none → dx ≠ a → Inv X pins σ (upd (upd H dx (exd dx [(f, y)])) a (exo a C (some dx))) s' → Q () s') : wpAny (model X.prog X.w) A (setAttr (.ref a) f u) Q E s := by
  obtain ⟨t1, ho⟩ := exo_at I.hok e
  obtain ⟨hp, g, d, t, os⟩ := s
  refine PySem.W.set_plain I.kIn (ox := { cls := .ref C, dict := none, data := .fields #[.ref t1, .none, .none, .none, .bool false, .none] }) (od := none) ⟨ho, rfl, rfl, trivial⟩ T.sa ?_
  refine rosa_new T I.kIn ho hno fun h' tk' dx k dn dne hx hn => ?_
  have hnd : H dx = none := I.hok.fresh dn
  have nd : ∀ {b : Addr} {o : Obj}, hp.get? b = some o → b ≠ dx := fun {b o} q => Nat.ne_of_lt (Nat.lt_of_lt_of_le (Heap.lt_size q) dn)
  have na : ∀ {b : Addr}, H b = none → b ≠ a := fun {b} n z => by
    rw [z, e] at n
    cases n
  have U : Un X.fs [] H (upd (upd H dx (exd dx [(f, y)])) a (exo a C (some dx))) hp h' := by
    refine ⟨fun b o q n _ _ => k b o (na n) q, fun b o q n _ _ => ⟨o.slots, k b o (na n) q⟩, fun b o q n _ => ?_, fun b o q _ => ?_, fun b xs q => ?_, fun b o v q => ?_, fun b ps q => ⟨#[], ?_⟩⟩
    · rw [upd_ne (na n), upd_ne (nd q)]; exact n
    · by_cases hb : b = a
      · subst hb; exact ⟨_, hx⟩
      · exact ⟨o, k b o hb q⟩
    · rw [upd_ne (at_ne e q exo_tup), upd_ne (ne_of_none q hnd)]; exact q
    · rw [upd_ne (at_ne e q exo_frz), upd_ne (ne_of_none q hnd)]; exact q
    · rw [upd_ne (at_ne e q exo_tbl), upd_ne (ne_of_none q hnd), q]; simp
  refine h dx _ hnd dne (I.un (t' := tk') U fun b o q => ?_)
  by_cases hb : b = a
  · subst hb; rw [upd_same] at q; cases q; exact exo_ok hx
  rw [upd_ne hb] at q
  by_cases hd : b = dx
  · subst hd; rw [upd_same] at q; cases q; exact exd_ok hn (relO_put (fs := []) ry fun g => True.intro)
  rw [upd_ne hd] at q
  refine (I.hok b o q).stay (fun c v hc z => k c v ?_ z) (fun c hc => ?_) fun c xs hc => ?_
  · rcases hc with rfl | hc
    · exact hb
    · exact at_ne e hc exo_own
  · rw [upd_ne (at_ne e hc exo_own), upd_ne (ne_of_none hc hnd)]; exact hc
  · rw [upd_ne (at_ne e hc exo_tup), upd_ne (ne_of_none hc hnd)]; exact hc
theorem rst_old (T : RexC X.K C) (I : Inv X pins σ H s) (e : H a = some (exo a C (some dx))) (ed : H dx = some (exd dx fs)) (hl : fs.length ≤ 900) (hno : PySem.W.findIn X.K (.ref C) f = some none) (ry : RelV y u)
    (h : ∀ s', Inv X pins σ (upd H dx (exd dx ((f, y) :: fs))) s' → Q () s') : wpAny (model X.prog X.w) A (setAttr (.ref a) f u) Q E s := by
  obtain ⟨t1, ho⟩ := exo_at I.hok e
  obtain ⟨mA, hns, rel⟩ := exd_at I.hok ed
  have hw := within_of rel
  obtain ⟨hp, g, d, t, os⟩ := s
  obtain ⟨oD, _, _, hoD, _, _⟩ := hns.count hw
  refine PySem.W.set_plain I.kIn (ox := { cls := .ref C, dict := some dx, data := .fields #[.ref t1, .none, .none, .none, .bool false, .none] }) (od := some oD) ⟨ho, rfl, rfl, hoD⟩ T.sa ?_
  refine rosa_old T I.kIn ho hns hw (by rw [List.length_map]; omega) hno fun h' tk' k hn => ?_
  have hd : ∃ o, h'.get? dx = some o := by
    obtain ⟨o, _, _, e', _⟩ := hn
    exact ⟨o, e'⟩
  exact h _ (I.write (t' := tk') (x := dx) (e := dx) (o := exd dx ((f, y) :: fs)) (by rw [ed]; exact True.intro) (.inl rfl) k hd (exd_ok hn (relO_put ry rel)))
theorem rinit_ok {us : List Value} {Q : Value → Shared → Prop} (T : RexC X.K C) (I : Inv X pins σ H s) (e : H a = some (exo a C none)) (hl : us.length ≤ sizeLine) (h : ∀ s', Inv X pins σ H s' → Q .none s') :
    wpAny (model X.prog X.w) A (call (.builtin "RuntimeError.__init__") (.ref a :: us)) Q E s := by
  obtain ⟨nm, N, q, bs, bm, hd, sn, sub, ab, col, dd, k0, k1, k2, k3, k5, hC, hbm⟩ := PySem.W.excInit_of I.kIn T.ini
  obtain ⟨t1, ho⟩ := exo_at I.hok e
  obtain ⟨hp, g, d, t, os⟩ := s
  refine wpAny_call (PySem.HandSPX.init_base PySem.F.excBase_RuntimeError hbm hC ho hl fun h' t2 k hx => ?_)
  have J := I.write (t' := t) (x := a) (e := a) (o := exo a C none) (by rw [e]; exact True.intro) (.inl rfl) k ⟨_, hx⟩ (exo_ok hx)
  have eu : upd H a (exo a C none) = H := by
    funext b
    by_cases hb : b = a
    · rw [hb, upd_same, e]
    · rw [upd_ne hb]
  rw [eu] at J
  exact h _ J
end

/-! ### readings and rules -/
def tRtI (K : PySem.W.Frag) (ta : TA) : TE := fun σ H Q => ta σ H fun vs H1 => ∃ (a C : Addr) (ws : List V), vs = .ref a :: ws ∧ ws.length ≤ 1000 ∧ RexC K C ∧ H1 a = some (exo a C none) ∧ Q .non H1
def tRst (K : PySem.W.Frag) (f : Str) (to te : TE) : TS := fun D σ H => te σ H fun y H1 => to σ H1 fun x H2 => ∃ a C : Addr, x = .ref a ∧ RexC K C ∧ PySem.W.findIn K (.ref C) f = some none ∧
  ((H2 a = some (exo a C none) ∧ ∀ dx, H2 dx = none → dx ≠ a → D.nx σ (upd (upd H2 dx (exd dx [(f, y)])) a (exo a C (some dx)))) ∨
    ∃ (dx : Addr) (fs : List (Str × V)), H2 a = some (exo a C (some dx)) ∧ H2 dx = some (exd dx fs) ∧ fs.length ≤ 900 ∧ D.nx σ (upd H2 dx (exd dx ((f, y) :: fs))))
section
variable {X : Cx} {o e : Expr} {es : List Expr} {to te : TE} {ta : TA} {f x : Str} {p p' p1 p2 pos : Pos} {B : Addr}
/-- B.__init__(self, ..), B an own class without a further __init__ -/
theorem pe_rtinit {pl : Sem Bool} (hg : Gl X x) (hm : X.mg x = some (.ref B)) (rd : PySem.W.readsIn X.K B (.type "type") = true) (ga : PySem.W.specialIn X.K (.ref B) "__getattribute__" = some (some (.builtin "type.__getattribute__")))
    (vV : PySem.W.findCls X.K (.ref B) (.type "type") "__init__" = some (.val (.builtin "RuntimeError.__init__"))) (ha : PA X (e :: es) ta) (hdb : (x == ("__debug__" : Str)) = false := by decide)
    (hc : eval (.Call (.Attribute (.Name x p1) "__init__" p2) (e :: es) [] pos) X.env = (do
      let ov ← eval (.Name x p1) X.env
      standAt p2.atName
      let (f, first) ← holding [ov] (getMethod ov "__init__" pl)
      callWith pos f first (backTo pos (starEach (e :: es) X.env)) (backToKw pos (keywordEach [] X.env))) := by rfl)
    (he : starEach (e :: es) X.env = (false, eval e X.env) :: starEach es X.env := by rfl) (hpl : (backTo pos (starEach es X.env)).any (·.1) = false := by rfl) :
    PE X (.Call (.Attribute (.Name x p1) "__init__" p2) (e :: es) [] pos) (tRtI X.K ta) := by
  constructor
  intro pins s σ H Q I h
  refine PySem.W.methodCall_KW (ld_glob I hg hm ?_ hdb) hc
  refine PySem.W.method_cls I.kIn ga (PySem.W.cls_value I.kIn rd vV (by decide +kernel) ?_)
  show wpAny _ _ (callWith pos (Value.builtin "RuntimeError.__init__") [] (backTo pos (starEach (e :: es) X.env)) []) _ _ _
  refine PyProof.Rows.callWith_method1 (thn (ha.run pos pins _ σ H _ (I.tok _) h) fun us s1 ⟨vs, H1, I1, r1, a, C, ws, ev, hl, T, ea, q⟩ => ?_) he hpl
  subst ev
  cases r1 with
  | @cons _ u0 _ ur ra rw' =>
    obtain rfl : u0 = Value.ref a := ra
    refine rinit_ok T I1 ea ?_ fun s' J => ⟨.non, H1, J, rfl, q⟩
    rw [← Paired.length rw', sizeLine_eq]
    omega
theorem ps_rst (ho : PE X o to) (he : PE X e te) (hs : swapsWith e (some (.Attribute o f p')) pos.line X.env = pure false := by rfl) : PS X (.Assign [.Attribute o f p'] e pos) (tRst X.K f to te) := by
  constructor
  intro pins s σ H D I h
  refine plainObj_wpAny_Assign_Attribute (thn (he.run pins s σ H _ I h) fun v s1 ⟨y, H1, I1, r1, q1⟩ => thn (ho.run pins s1 σ H1 _ I1 q1) fun u s2 ⟨x, H2, I2, r2, a, C, ex, T, hno, q⟩ => ?_) hs
  subst ex
  obtain rfl : u = Value.ref a := r2
  rcases q with ⟨ea, q⟩ | ⟨dx, fs, ea, ed, hl, q⟩
  · exact rst_new T I2 ea hno r1 fun dx s' n ne J => ⟨σ, _, J, q dx n ne⟩
  · exact rst_old T I2 ea ed hl hno r1 fun s' J => ⟨σ, _, J, q⟩
theorem pmk_rex {CX : CXT} {C fI : Addr} {k : Nat} {fd : FuncData} {ps : List Str} {sp : Sp} (T : RexC X.K C) (iC : PySem.W.findIn X.K (.ref C) "__init__" = some (some (.ref fI))) (tI : PySem.W.typeIn X.K (.ref fI) = some (.type "function"))
    (F1 : FnOk X.prog X.w X.K X.mg X.base CX k fI fd ps sp) (hr : Room (k + 1) X.A) (hb : Binds X.K fd ps []) (hx : Passes CX X (fun _ _ _ => False)) (hg : Gl X x) (hm : X.mg x = some (.ref C)) (ha : PA X (e :: es) ta)
    (hdb : (x == ("__debug__" : Str)) = false := by decide) (he : starEach (e :: es) X.env = (false, eval e X.env) :: starEach es X.env := by rfl) (hpl : (backTo pos (starEach es X.env)).any (·.1) = false := by rfl) :
    PMk X (.Call (.Name x p) (e :: es) [] pos) (tMkO C sp [] ta) := by
  intro pins s σ H Q I h
  refine wpAny_Call_Name_kw (ld_glob I hg hm ?_ hdb)
  refine PySem.W.callWith_K (h₀ := X.base) I.ok.mod.kin T.kC (thn (ha.run pos pins s σ H _ I h) fun us s1 ⟨vs, H1, I1, r1, hz, q1⟩ => ⟨I1.kIn, ?_⟩) he hpl
  show wpAny _ _ (call (.ref C) us) _ _ _
  obtain ⟨nm, N, q, bs, bm, hd, sn, sub, ab, col, dd, k0, k1, k2, k3, k5, hC, hbm⟩ := PySem.W.excInit_of I1.kIn T.ini
  obtain ⟨hp, g, dr, tk, os⟩ := s1
  have hsz : hp.objs.size ≤ hp.objs.size + 1 := Nat.le_succ _
  have hn : H1 (hp.objs.size + 1) = none := I1.hok.fresh hsz
  have hq := q1 (hp.objs.size + 1) hn
  rw [List.append_nil] at hq
  let h9 : Heap := (hp.push (PySem.W.kdv_tup us)).push (PySem.HandSPX.excO C hp.objs.size)
  have kk : ∀ b o, hp.get? b = some o → h9.get? b = some o := fun b o e => Heap.get?_push_of_some _ (Heap.get?_push_of_some _ e)
  have hget : h9.get? (hp.objs.size + 1) = some (PySem.HandSPX.excO C hp.objs.size) := by
    show ((hp.push (PySem.W.kdv_tup us)).push (PySem.HandSPX.excO C hp.objs.size)).get? (hp.objs.size + 1) = _
    heap_get
  have I2 : Inv X pins σ (upd H1 (hp.objs.size + 1) (exo (hp.objs.size + 1) C none)) ⟨h9, g, dr, tk, os⟩ := I1.laid (t' := tk) kk hsz (exo_ok hget)
  have r2 : Vals (V.ref (hp.objs.size + 1) :: vs) (Value.ref (hp.objs.size + 1) :: us) := .cons rfl r1
  have hl : (Value.ref (hp.objs.size + 1) :: us).length = ps.length := by rw [← r2.length]; exact F1.len _ _ _ _ hq
  have hbd := hb ⟨h9, g, dr, tk, os⟩ (Value.ref (hp.objs.size + 1) :: us) I2.kIn (by rw [List.append_nil]; exact hl)
  rw [List.append_nil] at hbd
  have hus : us.length ≤ sizeLine := by
    rw [← Paired.length r1, sizeLine_eq]
    omega
  refine wpAny_call (PySem.HandSPX.call_own PySem.F.excBase_RuntimeError hbm hC (PySem.W.looks_findIn I1.kIn iC) (fun self => PySem.W.bind_fn I1.kIn self tI) hus
    (codeAny_mono (F1.run _ X.stack _ _ ⟨Value.ref (hp.objs.size + 1) :: us, []⟩ _ _ _ (fun _ _ _ => False) (hr.make C us []) (I2.env0.make C us []) hbd r2 hq) fun r s' hq' => ?_))
  cases r with
  | error er => exact hx pins σ _ _ er s' I2 hq'
  | ok fl =>
    cases fl with
    | ret u =>
      obtain ⟨v, H2, os2, bare2, un2, hok2, rv, ev, d, fs, ea, ed, hd1, q2⟩ := hq'
      subst ev
      obtain ⟨h2, g2, d2, t2, os'⟩ := s'
      exact ⟨rv, mk_end (raises_own T.exC T.tyC) I1 hsz kk un2 hok2 os2 bare2 ea ed hd1 q2⟩
    | next => exact hq'.elim
    | brk => exact hq'.elim
    | cont => exact hq'.elim
end
end Gs

set_option Elab.async false
set_option linter.all false
set_option maxRecDepth 100000
set_option maxHeartbeats 4000000
/-! GsIs: isinstance of a caught error of an own class that has its dict. -/
namespace Gs
open PySem PySem.Spec PyProof.Rows L2 Evl

section
open PySem.W PySem.Calls
variable {prog : Program} {w : World} {A : Around} {E : Value → Shared → Prop} {s : Shared} {K : Frag} {x D : Addr} {ox : Obj} {od : Option Obj}
theorem findObj_dat {C : Addr} {name : Str} {a g : Value} (hc : (clsIn K C).isSome = true) (ha : findIn K (.ref C) name = some (some a)) (hg : specialIn K a "__get__" = some (some g)) (ht : takesIn K a = some true) : findObj K C od name = some (.bind g a) := by
  obtain ⟨cd, hc⟩ := Option.isSome_iff_exists.mp hc
  unfold findObj
  rw [hc, Option.bind_some, ha, Option.bind_some]
  simp [hg, ht]
theorem kin_classO {Q : Option Value → Shared → Prop} (T : L2.ExcC K D) (X : K.In s.heap) (I : InstAt s.heap x ox D od) (h : Q (some (.ref D)) { s with toks := s.toks + 1 }) : wpAny (model prog w) A (getAttr? (.ref x) "__class__") Q E s := by
  have hf : findObj K D od "__class__" = some (.bind (.builtin "getset_descriptor.__get__") (.builtin "object.__class__")) := findObj_dat (by
    obtain ⟨cd, hc, _⟩ := any_some T.hd
    rw [hc] <;> rfl) T.ha T.hn T.ht
  obtain ⟨hp, g, d, t, os⟩ := s
  have T0 := I.type (M := model prog w)
  have T1 := looks_findIn (M := model prog w) X T.hg
  have T2 := looks_findIn (M := model prog w) X T.hk
  have T3 := looks_find (M := model prog w) X I hf
  have sub : Looks (model prog w) hp (isInstance (.ref x) (.type "BaseException")) true := T0.andThen (looks_subIn X T.hs)
  have n0 : (false && onTheHeap (Value.builtin "BaseException.__getattribute__")) = false := rfl
  have n2 : (Value.builtin "BaseException.__getattribute__" == Value.builtin "object.__getattribute__") = false := by decide +kernel
  have n1 : (onTheHeap (Value.ref D) && Value.builtin "BaseException.__getattribute__" == Value.builtin "object.__getattribute__") = false := by rw [n2] <;> rfl
  unfold getAttr? getAttrBy? getAttrBy
  refine wpAny_bind (wpAny_mkText (wpAny_bind (wpAny_attempt (wpAny_holding (wpAny_bind (T0.at (wpAny_bind (T1.at ?_))))))))
  show wpAny _ _ (if (onTheHeap (Value.ref D) && Value.builtin "BaseException.__getattribute__" == Value.builtin "object.__getattribute__") = true then _ else _) _ _ _
  rw [n1, if_neg Bool.false_ne_true]
  unfold getAttrByItsOwn hookBefore
  refine wpAny_bind ?_
  rw [if_pos (show onTheHeap (Value.ref D) = true from rfl)]
  refine T2.at ?_
  refine wpAny_bind (wpAny_attempt (wpAny_holding ?_))
  unfold callGetattribute
  rw [n0, if_neg Bool.false_ne_true]
  unfold boundAndCalled
  rw [PySem.F.excAttr_ValueError.ga.bind (.ref x)]
  refine wpAny_bind (wpAny_pure ?_)
  show wpAny _ _ (call (.builtin "BaseException.__getattribute__") [.ref x, .str "__class__" t]) _ _ _
  refine wpAny_call (codeAny_call_builtin PySem.F.excAttr_ValueError.ga.plain PySem.F.entry_bexc_ga ?_)
  refine @check_slot (model prog w) _ _ ⟨hp, g, d, t + 1, os⟩ "BaseException.__getattribute__" "BaseException" "__getattribute__" (.ref x) [.str "__class__" t] [] _ (by decide +kernel) (by decide +kernel) sub (PySem.F.args_bexc_ga (.ref x) (.str "__class__" t)) ?_
  unfold Builtin.«object.__getattribute__»
  refine wpAny_bind (wpAny_of_eq (a := ((Value.ref x : Value), [Value.str "__class__" t])) (by first | rfl | (simp only [slotArgs]; rfl)) ?_)
  refine wpAny_bind (wpAny_pure (wpAny_bind (T0.at (wpAny_bind (T3.at ?_)))))
  show wpAny _ _ (holding [Value.builtin "object.__class__"] (call (.builtin "getset_descriptor.__get__") [.builtin "object.__class__", .ref x, .ref D]) >>= ret) _ _ _
  refine wpAny_bind (wpAny_holding (wpAny_call (class_get (s := ⟨hp, g, d, t + 1, os⟩) (ox := ox) (od := od) X I T.hm ?_)))
  refine wpAny_pure ?_
  show wpAny _ _ (handedOut (.ref D)) _ _ _
  rw [handedOut_of (v := .ref D) rfl]
  first
    | exact wpAny_pure (wpAny_pure h)
    | exact wpAny_pure h
    | exact wpAny_pure (wpAny_bind (wpAny_pure (wpAny_pure h)))
theorem kitx_excO (T : L2.ExcC K D) : KitX K (.ref x) (.ref D) (fun h => ∃ od, InstAt h x ox D od) where
  ty := fun _ _ _ ⟨_, I⟩ => I.type
  it := fun _ _ X _ => by
    obtain ⟨cdD, hcD, _⟩ := any_some T.hd
    unfold clsIn at hcD
    split at hcD
    · rename_i c' d' cd' sl' ho
      intro A' Q' E' s' k q
      unfold isType loadHead
      exact wpAny_bind (wpAny_loadPart (k _ _ (X _ _ ho)) (wpAny_pure q))
    · cases hcD
  ne := fun h tp dd its n sl X htp => by
    obtain ⟨cdD, hcD, _⟩ := any_some T.hd
    refine Bool.eq_false_iff.mpr fun q => ?_
    have e : D = tp := Value.ref.inj (beq_iff_eq.mp q)
    subst e
    unfold clsIn at hcD
    split at hcD
    · rename_i c' d' cd' sl' ho
      have z := (X _ _ ho).symm.trans htp
      cases z
    · cases hcD
  ca := fun X ⟨_, I⟩ k => kin_classO T X I k
end

def rIsD (K : PySem.W.Frag) (D a : Addr) (cls : Value) (d : Option Addr) : List V → Hp → VK → Prop := fun xs H Q => cls = .ref D ∧ ∃ (dd : Addr) (fs : List (Str × V)) (c : V) (cv : Value) (b : Bool),
  d = some dd ∧ H dd = some (.xd fs) ∧ xs = [.ref a, c] ∧ (∀ u, RelV c u → u = cv) ∧ PySem.W.kitOne K (.ref D) cv = some b ∧ Q (.bl b) H
theorem call_isD {X : Cx} {a D : Addr} {cls : Value} {d : Option Addr} {oe : Obj} {pn : List (Addr × Obj)} (T : L2.ExcC X.K D) (hz : Zc cls d oe) (hf : ∃ vs, oe.data = .fields vs) : CallR (X.suite a ((a, oe) :: pn)) (.builtin "isinstance") (rIsD X.K D a cls d) := by
  intro pins s σ H xs us Q I r h
  obtain ⟨ec, dd, fs, c, cv, b, ed, ea, rfl, hcv, e, q⟩ := h
  subst ec ed
  cases r with
  | cons rx rr =>
    cases rr with
    | cons rt rr =>
      cases rr
      cases rx
      have ec := hcv _ rt
      subst ec
      obtain ⟨hget, _⟩ := I.pin (a, oe) (List.mem_append.mpr (.inl List.mem_cons_self))
      obtain ⟨vs, hv⟩ := hf
      have hx : ObjOk X.prog X.w H s.heap dd (.xd fs) := I.hok dd _ ea
      obtain ⟨mA, hns, hr⟩ := hx
      obtain ⟨od, ho, hl⟩ := lookIn_ns hns
      have J : PySem.W.InstAt s.heap a oe D (some od) := ⟨hget, hz.1, by unfold PySem.W.notCls; rw [hv] <;> rfl, by rw [hz.2]; exact ho⟩
      exact PySem.W.kia_one (kitx_excO T) I.kIn ⟨_, J⟩ e (fun z => nomatch z) fun tk => ⟨.bl b, H, I.kept (t' := tk) fun _ _ z => z, rfl, q⟩
end Gs

set_option Elab.async false
set_option linter.all false
set_option maxRecDepth 100000
set_option maxHeartbeats 4000000
/-! GsJ: readings that are the text itself; judgments over them. -/
namespace Gs
open PySem PySem.Spec PyProof.Rows L2 Evl

/-! ### the text's own reading -/
def tE (X : Cx) (e : Expr) : TE := fun σ H Q => ∀ (pins : List (Addr × Obj)) (s : Shared), Inv X pins σ H s → wpAny (model X.prog X.w) X.A (eval e X.env) (EP X pins σ Q) X.xe s
def tT (X : Cx) (e : Expr) : TT := fun σ H Q => ∀ (pins : List (Addr × Obj)) (s : Shared), Inv X pins σ H s → wpAny (model X.prog X.w) X.A (isTrue e X.env (eval e X.env)) (TP X pins σ Q) X.xe s
def tA (X : Cx) (es : List Expr) : TA := fun σ H Q => ∀ (pos : Pos) (pins : List (Addr × Obj)) (s : Shared), Inv X pins σ H s → wpAny (model X.prog X.w) X.A (spliced (backTo pos (starEach es X.env))) (AP X pins σ Q) X.xe s
def tR (X : Cx) (st : List Stmt) : TS := fun D σ H => ∀ (pins : List (Addr × Obj)) (s : Shared), Inv X pins σ H s → wpAny (model X.prog X.w) X.A (execs st X.env) (SP X pins D) X.xe s
def tTs (X : Cx) (ifs : List Expr) : TT := fun σ H Q => ∀ (pins : List (Addr × Obj)) (s : Shared), Inv X pins σ H s →
  wpAny (model X.prog X.w) X.A (forIn ifs true fun c r => if r = true then do let ok ← isTrue c X.env (eval c X.env); pure (ForInStep.yield ok) else pure (ForInStep.yield r)) (TP X pins σ Q) X.xe s
section
variable {X : Cx} {e : Expr} {es : List Expr} {st : List Stmt} {te : TE} {tt : TT} {ta : TA} {ts : TS} {σ : L2.St} {H : Hp} {D : Ends}
theorem pE : PE X e (tE X e) := ⟨fun pins s _ _ _ I h => h pins s I⟩
theorem pT : PT X e (tT X e) := ⟨fun pins s _ _ _ I h => h pins s I⟩
theorem pA : PA X es (tA X es) := ⟨fun pos pins s _ _ _ I h => h pos pins s I⟩
theorem pR : PSs X st (tR X st) := ⟨fun pins s _ _ _ I h => h pins s I⟩
theorem pTs : PTs X es (tTs X es) := ⟨fun pins s _ _ _ I h => h pins s I⟩
theorem le_E (h : PE X e te) {Q : VK} (r : te σ H Q) : tE X e σ H Q := fun pins s I => h.run pins s σ H Q I r
theorem le_T (h : PT X e tt) {Q : Bool → Hp → Prop} (r : tt σ H Q) : tT X e σ H Q := fun pins s I => h.run pins s σ H Q I r
theorem le_A (h : PA X es ta) {Q : List V → Hp → Prop} (r : ta σ H Q) : tA X es σ H Q := fun pos pins s I => h.run pos pins s σ H Q I r
theorem le_R (h : PSs X st ts) (r : ts D σ H) : tR X st D σ H := fun pins s I => h.run pins s σ H D I r
theorem le_Ts (h : PTs X es tt) {Q : Bool → Hp → Prop} (r : tt σ H Q) : tTs X es σ H Q := fun pins s I => h.run pins s σ H Q I r
end
/-- in every block of a comprehension -/
def tEb (X : Cx) (scope : Scope) (e : Expr) : TE := fun σ H Q => ∀ (s : Shared) (H0 : Hp) (C : Addr) (cl : List (PySem.Str × Addr)) (fp : List Addr), tE (X.blk s H0 scope (compEnvC scope cl C X.env) fp) e σ H Q
def tTsb (X : Cx) (scope : Scope) (es : List Expr) : TT := fun σ H Q => ∀ (s : Shared) (H0 : Hp) (C : Addr) (cl : List (PySem.Str × Addr)) (fp : List Addr), tTs (X.blk s H0 scope (compEnvC scope cl C X.env) fp) es σ H Q
theorem pEb {X : Cx} {scope : Scope} {e : Expr} : BlkIs X scope fun Y => PE Y e (tEb X scope e) := fun s0 H0 C cl fp => ⟨fun pins s _ _ _ I h => h s0 H0 C cl fp pins s I⟩
theorem pTsb {X : Cx} {scope : Scope} {es : List Expr} : BlkIs X scope fun Y => PTs Y es (tTsb X scope es) := fun s0 H0 C cl fp => ⟨fun pins s _ _ _ I h => h s0 H0 C cl fp pins s I⟩

/-! ### judgments: P of the value; the part N of the heap -/
def J (X : Cx) (e : Expr) (σ : L2.St) (N : Hp) (P : MP) : Prop := EvP (tE X e) σ N P
def JT (X : Cx) (e : Expr) (σ : L2.St) (N : Hp) (b : Bool) : Prop := EvT (tT X e) σ N b
def JA (X : Cx) (es : List Expr) (σ : L2.St) (N : Hp) (L : ML) : Prop := EvAP (tA X es) σ N L
def JTs (X : Cx) (es : List Expr) (σ : L2.St) (N : Hp) (b : Bool) : Prop := EvT (tTs X es) σ N b
section
variable {X : Cx} {e a b c : Expr} {es : List Expr} {te : TE} {tt : TT} {ta : TA} {σ : L2.St} {N M : Hp} {P P1 P2 : MP} {L : ML} {x : PySem.Str} {v w z : V} {pos pos' : Pos} {K : PySem.W.Frag}
theorem j_of (h : PE X e te) (r : EvP te σ N P) : J X e σ N P := fun C eC Q q => le_E h (r C eC Q q)
theorem j_ev (h : PE X e te) (r : Ev te σ N v) : J X e σ N (mIs v) := j_of h (ep_ev r)
theorem jt_of {b : Bool} (h : PT X e tt) (r : EvT tt σ N b) : JT X e σ N b := fun C eC Q q => le_T h (r C eC Q q)
theorem ja_of (h : PA X es ta) (r : EvAP ta σ N L) : JA X es σ N L := fun C eC Q q => le_A h (r C eC Q q)
theorem J.ev (h : J X e σ N (mIs v)) : Ev (tE X e) σ N v := ev_ep h
theorem J.up (h : J X e σ N P) (g : Ex N M) : J X e σ M P := EvP.up h g
theorem J.imp (h : J X e σ N P) (k : ∀ v M, Ex N M → P.p v M → P2.p v M) : J X e σ N P2 := EvP.imp h k
theorem JT.up {b : Bool} (h : JT X e σ N b) (g : Ex N M) : JT X e σ M b := EvT.mono g h
theorem JA.up (h : JA X es σ N L) (g : Ex N M) : JA X es σ M L := EvAP.up h g
theorem J.int {i : Int} (h : J X e σ N (mD K (.int i))) : J X e σ N (mIs (.int i)) := ep_ev (ev_dint h)
theorem J.str {i : PySem.Str} (h : J X e σ N (mD K (.str i))) : J X e σ N (mIs (.str i)) := ep_ev (ev_dstr h)
theorem J.val {d : PyData} (h : J X e σ N (mIs v)) (hd : Dp K N v d) : J X e σ N (mD K d) := J.imp h fun y M g p => by
  have p' : y = v := p
  subst p'
  exact dp_mono g hd
theorem J.is (h : J X e σ N (mIs v)) (q : v = w) : J X e σ N (mIs w) := by subst q; exact h
theorem JT.is {b b' : Bool} (h : JT X e σ N b) (q : b = b') : JT X e σ N b' := by subst q; exact h

/-! ### names, constants -/
theorem j_var (i : Nat) (hp : P.p v N) (hσ : σ[i]? = some (some v) := by rfl) (hN : X.N[i]? = some x := by rfl) (hv : Vis X.env.scope x := by first | exact Or.inl rfl | exact Or.inr (Or.inl rfl) | exact Or.inr (Or.inr rfl)) (hd : (x == ("__debug__" : PySem.Str)) = false := by decide)
    (hcd : (x == ("__classdict__" : PySem.Str)) = false := by decide) : J X (.Name x pos) σ N P := j_of (pe_var hN hv hd hcd) (ep_var hσ hp)
theorem jv (i : Nat) (hσ : σ[i]? = some (some v) := by rfl) (hN : X.N[i]? = some x := by rfl) (hv : Vis X.env.scope x := by first | exact Or.inl rfl | exact Or.inr (Or.inl rfl) | exact Or.inr (Or.inr rfl)) (hd : (x == ("__debug__" : PySem.Str)) = false := by decide)
    (hcd : (x == ("__classdict__" : PySem.Str)) = false := by decide) : J X (.Name x pos) σ N (mIs v) := j_of (pe_var hN hv hd hcd) (ep_var hσ rfl)
theorem j_int {i : Int} {j} : J X (.Constant (.int i) j pos) σ N (mIs (.int i)) := j_ev pe_int ev_c
theorem j_bl {b : Bool} {j} : J X (.Constant (.bool b) j pos) σ N (mIs (.bl b)) := j_ev pe_bl ev_c
theorem j_non {j} : J X (.Constant .none j pos) σ N (mIs .non) := j_ev pe_non ev_c
theorem j_str {i : PySem.Str} {j} : J X (.Constant (.str i) j pos) σ N (mIs (.str i)) := j_ev pe_str ev_c
theorem j_glo {u : Value} (hm : X.mg x = some u) (r : RelV v u) (hg : Gl X x := by rfl) (hd : (x == ("__debug__" : PySem.Str)) = false := by decide) : J X (.Name x pos) σ N (mIs v) := j_ev (pe_glob hg hm r hd) ev_c
theorem j_blt {u : Value} (hm : X.mg x = none) (hv : bootBuiltins x = some u) (r : RelV v u) (hg : Gl X x := by rfl) (hn : x ≠ "__name__" := by decide) (hd : (x == ("__debug__" : PySem.Str)) = false := by decide) : J X (.Name x pos) σ N (mIs v) := j_ev (pe_bltn hg hm hv r hn hd) ev_c

/-! ### operators -/
theorem j_op {op : Operator} {r : R2} (ho : OpR X (binaryOp op) r) (ha : J X a σ N (mIs v)) (hb : J X b σ N (mIs w)) (hr : RV r v w N z) : J X (.BinOp a op b pos) σ N (mIs z) := j_ev (pe_op ho pE pE) (ev_op ha.ev hb.ev hr)
theorem j_opP {op : Operator} {r : R2} (ho : OpR X (binaryOp op) r) (ha : J X a σ N P1) (hb : J X b σ N P2) (hr : ∀ x y M, Ex N M → P1.p x M → P2.p y M → RP r x y M P) : J X (.BinOp a op b pos) σ N P := j_of (pe_op ho pE pE) (ep_op ha hb hr)
theorem j_add {i j : Int} (ha : J X a σ N (mIs (.int i))) (hb : J X b σ N (mIs (.int j))) : J X (.BinOp a .Add b pos) σ N (mIs (.int (i + j))) := j_op op_add ha hb rv_I0
theorem j_sub {i j : Int} (ha : J X a σ N (mIs (.int i))) (hb : J X b σ N (mIs (.int j))) : J X (.BinOp a .Sub b pos) σ N (mIs (.int (i - j))) := j_op op_sub ha hb rv_I0
theorem j_mod {i j : Int} (ha : J X a σ N (mIs (.int i))) (hb : J X b σ N (mIs (.int j))) (h : 0 < j) : J X (.BinOp a .Mod b pos) σ N (mIs (.int (i % j))) := j_op op_mod ha hb (rv_I h)
theorem j_fdiv {i j : Int} (ha : J X a σ N (mIs (.int i))) (hb : J X b σ N (mIs (.int j))) (h : CDiv i j) : J X (.BinOp a .FloorDiv b pos) σ N (mIs (.int (i / j))) := j_op op_fdiv ha hb (rv_I h)
theorem j_mul {i j : Int} (ha : J X a σ N (mIs (.int i))) (hb : J X b σ N (mIs (.int j))) (h : CMul i j) : J X (.BinOp a .Mult b pos) σ N (mIs (.int (i * j))) := j_op op_mul ha hb (rv_I h)
theorem j_cmp {op : CmpOp} {r : R2} (ho : OpR X (compareOp op) r) (ha : J X a σ N (mIs v)) (hb : J X b σ N (mIs w)) (hr : RV r v w N z) (hm : behindInMarks op b = false := by first | exact nomark _ | with_unfolding_all rfl) : J X (.Compare a [op] [b] pos) σ N (mIs z) :=
  j_ev (pe_cmpR ho pE pE hm) (ev_op ha.ev hb.ev hr)
theorem j_cmpP {op : CmpOp} {r : R2} (ho : OpR X (compareOp op) r) (ha : J X a σ N P1) (hb : J X b σ N P2) (hr : ∀ x y M, Ex N M → P1.p x M → P2.p y M → RP r x y M P) (hm : behindInMarks op b = false := by first | exact nomark _ | with_unfolding_all rfl) : J X (.Compare a [op] [b] pos) σ N P :=
  j_of (pe_cmpR ho pE pE hm) (ep_op ha hb hr)
theorem jt_cmp {op : CmpOp} {r : R2} {k : Bool} (ho : OpR X (compareOp op) r) (ha : J X a σ N (mIs v)) (hb : J X b σ N (mIs w)) (hr : RV r v w N (.bl k)) (hm : behindInMarks op b = false := by first | exact nomark _ | with_unfolding_all rfl) : JT X (.Compare a [op] [b] pos) σ N k :=
  jt_of (pt_cmpR ho pE pE hm) (et_test (ev_op ha.ev hb.ev hr))
theorem jt_cmpP {op : CmpOp} {r : R2} {k : Bool} (ho : OpR X (compareOp op) r) (ha : J X a σ N P1) (hb : J X b σ N P2) (hr : ∀ x y M, Ex N M → P1.p x M → P2.p y M → RP r x y M (mIs (.bl k))) (hm : behindInMarks op b = false := by first | exact nomark _ | with_unfolding_all rfl) : JT X (.Compare a [op] [b] pos) σ N k :=
  jt_of (pt_cmpR ho pE pE hm) (et_test (ev_ep (ep_op ha hb hr)))
/-- a test by a value that is a truth value -/
theorem jt_val {k : Bool} (h : J X e σ N (mIs (.bl k))) (he : ∀ whole, isTrue e X.env whole = (do let v ← whole; standAt e.pos; holding [v] (truthy v)) := by intro _; rfl) : JT X e σ N k := jt_of (pt_val pE he) (et_B h.ev)
theorem jt_not {k : Bool} (h : JT X a σ N k) : JT X (.UnaryOp .Not a pos) σ N (!k) := jt_of (pt_not pT) (et_not h)
theorem j_notT {k : Bool} (h : J X a σ N (mIs (.bl k))) : J X (.UnaryOp .Not a pos) σ N (mIs (.bl (!k))) := j_ev (pe_not pE) (ev_notV h.ev)
theorem j_one {op} (h : J X a σ N P) : J X (.BoolOp op [a] pos) σ N P := j_of (pe_one pE) h
theorem j_and {rest : List Expr} {k l : Bool} (ha : J X a σ N (mIs (.bl k))) (hb : k = true → J X (.BoolOp .And (b :: rest) pos) σ N (mIs (.bl l))) : J X (.BoolOp .And (a :: b :: rest) pos) σ N (mIs (.bl (k && l))) := j_ev (pe_and pE pE) (ev_andV ha.ev fun h => (hb h).ev)
theorem j_or {rest : List Expr} {k l : Bool} (ha : J X a σ N (mIs (.bl k))) (hb : k = false → J X (.BoolOp .Or (b :: rest) pos) σ N (mIs (.bl l))) : J X (.BoolOp .Or (a :: b :: rest) pos) σ N (mIs (.bl (k || l))) := j_ev (pe_or pE pE) (ev_orV ha.ev fun h => (hb h).ev)
theorem j_ife {k : Bool} (hc : JT X c σ N k) (ha : k = true → J X a σ N P) (hb : k = false → J X b σ N P) : J X (.IfExp c a b pos) σ N P := j_of (pe_ifExp pT pE pE) (ep_if hc ha hb)
/-- and, or as tests (their own reading whatever the whole) -/
def tW (X : Cx) (e : Expr) : TT := fun σ H Q => ∀ (whole : Sem Value) (pins : List (Addr × Obj)) (s : Shared), Inv X pins σ H s → wpAny (model X.prog X.w) X.A (isTrue e X.env whole) (TP X pins σ Q) X.xe s
theorem pW : PW X e (tW X e) := ⟨fun whole pins s _ _ _ I h => h whole pins s I⟩
def JW (X : Cx) (e : Expr) (σ : L2.St) (N : Hp) (b : Bool) : Prop := EvT (tW X e) σ N b
theorem jw_of {b : Bool} (h : PW X e tt) (r : EvT tt σ N b) : JW X e σ N b := fun C eC Q q => fun wh pins s I => h.run wh pins s σ C Q I (r C eC Q q)
theorem JW.t {k : Bool} (h : JW X e σ N k) : JT X e σ N k := jt_of pW.pt h
theorem jw_and1 {k : Bool} (h : JT X a σ N k) : JW X (.BoolOp .And [a] pos) σ N k := jw_of (pw_and1 pT) h
theorem jw_or1 {k : Bool} (h : JT X a σ N k) : JW X (.BoolOp .Or [a] pos) σ N k := jw_of (pw_or1 pT) h
theorem jw_and {rest : List Expr} {k l : Bool} (h : JT X a σ N k) (hb : k = true → JW X (.BoolOp .And (b :: rest) pos) σ N l) : JW X (.BoolOp .And (a :: b :: rest) pos) σ N (k && l) := jw_of (pw_and pT pW) (et_and h hb)
theorem jw_or {rest : List Expr} {k l : Bool} (h : JT X a σ N k) (hb : k = false → JW X (.BoolOp .Or (b :: rest) pos) σ N l) : JW X (.BoolOp .Or (a :: b :: rest) pos) σ N (k || l) := jw_of (pw_or pT pW) (et_or h hb)

/-! ### argument lists, displays -/
theorem ja_nil : JA X [] σ N lNil := ja_of pa_nil ea_nilP
theorem ja_cons (h : J X e σ N P) (hr : JA X es σ N L) (hs : starEach (e :: es) X.env = (false, eval e X.env) :: starEach es X.env := by rfl) : JA X (e :: es) σ N (lCons P L) := ja_of (pa_cons pE pA hs) (ea_consP h hr)
theorem ja_nilD : JA X [] σ N (lD K []) := ja_of pa_nil ea_nilD
theorem ja_consD {d : PyData} {ds : List PyData} (h : J X e σ N (mD K d)) (hr : JA X es σ N (lD K ds)) (hs : starEach (e :: es) X.env = (false, eval e X.env) :: starEach es X.env := by rfl) : JA X (e :: es) σ N (lD K (d :: ds)) := ja_of (pa_cons pE pA hs) (ea_consD h hr)
theorem j_tup {k : Nat} {ds : List PyData} (h : JA X es σ N (lD K ds)) (hl : ds.length ≤ 100000 := by decide) : J X (.Tuple es k pos) σ N (mD K (.tuple ds)) := j_of (pe_tup pA) (ep_tup h hl)
theorem j_lst {ds : List PyData} (h : JA X es σ N (lD K ds)) (hl : ds.length ≤ 100000 := by decide) : J X (.List es pos) σ N (mD K (.list ds)) := j_of (pe_lst pA) (ep_lst h hl)
/-- a new list: its own address, new -/
def mNL (N : Hp) (K : PySem.W.Frag) (R : List PyData → Prop) : MP := ⟨fun v H => ∃ (l : Addr) (xs : List V) (ds : List PyData), v = .ref l ∧ N l = none ∧ H l = some (.lst xs) ∧ DpAll K H xs ds ∧ R ds, fun e ⟨l, xs, ds, h1, h2, h3, h4, h5⟩ => ⟨l, xs, ds, h1, h2, e l _ h3, dps_mono e h4, h5⟩⟩
theorem mNL_R {R : List PyData → Prop} {R' : PyData → Prop} {H : Hp} (h : (mNL N K R).p v H) (k : ∀ ds, R ds → R' (.list ds)) : (mR K R').p v H := by
  obtain ⟨l, xs, ds, rfl, _, h3, h4, h5⟩ := h
  exact ⟨.list ds, k ds h5, Dp.lst (SqL.of h3) h4⟩
theorem mNL_D {R : List PyData → Prop} {ds : List PyData} {H : Hp} (h : (mNL N K R).p v H) (k : ∀ es, R es → es = ds) : (mD K (.list ds)).p v H := by
  obtain ⟨l, xs, es, rfl, _, h3, h4, h5⟩ := h
  rw [k es h5] at h4
  exact Dp.lst (SqL.of h3) h4
theorem j_lstN {ds : List PyData} (h : JA X es σ N (lD K ds)) (hl : ds.length ≤ 100000 := by decide) : J X (.List es pos) σ N (mNL N K (· = ds)) := j_of (pe_lst pA) fun C e Q q =>
  h C e _ fun vs N1 C1 g1 p1 => ⟨sz_of (by rw [dps_len p1]; exact hl), fun p hp => by
    have hn : N1 p = none := fresh_back g1.sub hp
    exact q (.ref p) (upd N1 p (.lst vs)) _ (g1.new hp) ⟨p, vs, ds, rfl, fresh_back g1.up hn, upd_same, dps_mono (Ex.new hn) p1, rfl⟩⟩

/-! ### items -/
theorem j_ixL {ds : List PyData} {d : PyData} {i : Int} (ha : J X a σ N (mD K (.list ds))) (hb : J X b σ N (mIs (.int i))) (hd : atI ds i = some d) (hK : X.K = K := by rfl) (hs : PlainIx b := by exact fun _ _ => rfl) : J X (.Subscript a b pos) σ N (mD K d) := by
  subst hK
  exact j_of (pe_ix ix_list pE pE hs) (ep_ixL ha hb.ev hd)
theorem j_ixT {ds : List PyData} {d : PyData} {i : Int} (ha : J X a σ N (mD K (.tuple ds))) (hb : J X b σ N (mIs (.int i))) (hd : atI ds i = some d) (hK : X.K = K := by rfl) (hs : PlainIx b := by exact fun _ _ => rfl) : J X (.Subscript a b pos) σ N (mD K d) := by
  subst hK
  exact j_of (pe_ix ix_tup pE pE hs) (ep_ixT ha hb.ev hd)
end
end Gs

set_option Elab.async false
set_option linter.all false
set_option maxRecDepth 100000
set_option maxHeartbeats 4000000
/-! GsR: statements, calls, loops, comprehensions over the text's own reading. -/
namespace Gs
open PySem PySem.Spec PyProof.Rows L2 Evl

/-! ### statements -/
section
variable {X : Cx} {e a b c : Expr} {es : List Expr} {st : Stmt} {rest body els : List Stmt} {ts : TS} {σ : L2.St} {N C : Hp} {P : MP} {L : ML} {x : PySem.Str} {v w z : V} {pos pos' : Pos} {K : PySem.W.Frag} {D : Ends}
theorem r_of (h : PS X st ts) (r : ts { D with nx := tR X rest D } σ C) : tR X (st :: rest) D σ C := le_R (pss_cons h pR) r
theorem r_nil (h : D.nx σ C) : tR X [] D σ C := le_R pss_nil h
theorem r_ret (he : J X e σ N P) (eN : Ex N C) (k : ∀ v N' C', Gr N C N' C' → P.p v N' → D.rt v C') : tR X (.Return (some e) pos :: rest) D σ C := r_of (ps_ret pE) (he C eN _ k)
theorem r_retN (k : D.rt .non C) : tR X (.Return none pos :: rest) D σ C := r_of ps_retN k
theorem r_drop (he : J X e σ N P) (eN : Ex N C) (k : ∀ v N' C', Gr N C N' C' → P.p v N' → tR X rest D σ C') (hs : swapsWith e none pos.line X.env = pure false := by rfl) : tR X (.Expr e pos :: rest) D σ C := r_of (ps_expr pE hs) (he C eN _ k)
theorem r_set (i : Nat) (he : J X e σ N P) (eN : Ex N C) (hN : X.N.Nodup) (k : ∀ v N' C', Gr N C N' C' → P.p v N' → tR X rest D (σ.set i (some v)) C') (hi : X.N[i]? = some x := by rfl) (hx : Loc X.env.scope x := by first | exact Or.inl rfl | exact Or.inr rfl)
    (hs : swapsWith e (some (.Name x pos')) pos.line X.env = pure false := by rfl) (hf : X.fn x = true ∨ X.env.scope.names.lookup x = some .local := by first | exact .inl rfl | exact .inr rfl) : tR X (.Assign [.Name x pos'] e pos :: rest) D σ C :=
  r_of (ps_set hN hi hx pE hs hf) (he C eN _ k)
theorem r_if {k : Bool} (hc : JT X c σ N k) (eN : Ex N C) (h1 : k = true → ∀ C', Ex C C' → tR X body { D with nx := tR X rest D } σ C') (h2 : k = false → ∀ C', Ex C C' → tR X els { D with nx := tR X rest D } σ C') : tR X (.If c body els pos :: rest) D σ C :=
  r_of (ps_if pT pR pR) (hc C eN _ fun C' g => by
    cases k with
    | true => exact iteT (h1 rfl C' g)
    | false => exact iteF (h2 rfl C' g))
/-- the test is known to fail -/
theorem r_skip (hc : JT X c σ N false) (eN : Ex N C) (h2 : ∀ C', Ex C C' → tR X rest D σ C') : tR X (.If c body [] pos :: rest) D σ C := r_if hc eN (fun z => nomatch z) fun _ C' g => r_nil (h2 C' g)
theorem r_take (hc : JT X c σ N true) (eN : Ex N C) (h1 : ∀ C', Ex C C' → tR X body { D with nx := tR X rest D } σ C') : tR X (.If c body els pos :: rest) D σ C := r_if hc eN (fun _ => h1) fun z => nomatch z
/-- target = value, whatever the target -/
theorem r_asg {tg : Expr} {g : TG} (he : J X e σ N P) (eN : Ex N C) (hg : PG X tg g) (k : ∀ v N' C', Gr N C N' C' → P.p v N' → g v σ C' (tR X rest D)) (hs : swapsWithSole [tg] e pos.line X.env = pure false := by rfl) (hw : swappedStores [tg] e X.env = pure none := by rfl)
    (h1 : (assignEach [tg] X.env).map (·.2) = [assign tg X.env] := by rfl) : tR X (.Assign [tg] e pos :: rest) D σ C := r_of (ps_asg pE hg hs hw h1) (he C eN _ k)
end

/-! ### calls of defs, methods by promise -/
structure Cl (P : Program) (w : World) (K : PySem.W.Frag) (mg : PySem.Str → Option Value) (base : Heap) (k : Nat) (x : PySem.Str) (pre : List V → Hp → MP → Prop) : Prop where
  ex : ∃ (f : Addr) (fd : FuncData) (ps : List PySem.Str), FnOk P w K mg base L2.CX0 k f fd ps (spP pre) ∧ mg x = some (.ref f) ∧ PySem.W.keepIn K (.ref f) = true ∧ Binds K fd ps []
structure Mt (P : Program) (w : World) (K : PySem.W.Frag) (mg : PySem.Str → Option Value) (base : Heap) (k : Nat) (C : Addr) (m : PySem.Str) (pre : List V → Hp → MP → Prop) : Prop where
  ex : ∃ (f : Addr) (fd : FuncData) (ps : List PySem.Str), FnOk P w K mg base L2.CX0 k f fd ps (spP pre) ∧ Meth K C m f ∧ Binds K fd ps []
section
variable {X : Cx} {e o : Expr} {es : List Expr} {σ : L2.St} {N : Hp} {P : MP} {L : ML} {x m : PySem.Str} {k j : Nat} {pre : List V → Hp → MP → Prop} {pos p apos : Pos}
theorem j_call (c : Cl X.prog X.w X.K X.mg X.base k x pre) (hr : Room j X.A) (ha : JA X (e :: es) σ N L) (hs : ∀ vs M, Ex N M → L.p vs M → pre vs M P) (hk : k ≤ j := by decide) (hg : Gl X x := by rfl) (hdb : (x == ("__debug__" : PySem.Str)) = false := by decide)
    (he : starEach (e :: es) X.env = (false, eval e X.env) :: starEach es X.env := by rfl) (hpl : (backTo pos (starEach es X.env)).any (·.1) = false := by rfl) : J X (.Call (.Name x p) (e :: es) [] pos) σ N P := by
  obtain ⟨f, fd, ps, F, hm, kp, hb⟩ := c.ex
  exact j_of (pe_call (E := E0) F (hr.mono hk) hg hm kp hb .nil pass0 pA hdb he hpl) (ep_call ha hs)
theorem j_meth {C c dx : Addr} {fs : List (PySem.Str × V)} {pl : Sem Bool} (hM : Mt X.prog X.w X.K X.mg X.base k C m pre) (cl : Cls X.K C) (hr : Room j X.A) (ho : J X o σ N (mIs (.ref c))) (hc : N c = some (.ins C dx fs)) (hf : fs.lookup m = none)
    (ha : JA X (e :: es) σ N L) (hs : ∀ vs M, Ex N M → L.p vs M → pre (.ref c :: vs) M P) (hk : k ≤ j := by decide)
    (hst : starEach (e :: es) X.env = (false, eval e X.env) :: starEach es X.env := by rfl) (hpl : (backTo pos (starEach es X.env)).any (·.1) = false := by rfl)
    (ht : eval (.Call (.Attribute o m apos) (e :: es) [] pos) X.env = (do
      let ov ← eval o X.env
      standAt apos.atName
      let (f, first) ← holding [ov] (getMethod ov m pl)
      callWith pos f first (backTo pos (starEach (e :: es) X.env)) (backToKw pos (keywordEach [] X.env))) := by rfl) : J X (.Call (.Attribute o m apos) (e :: es) [] pos) σ N P := by
  obtain ⟨f, fd, ps, F, hm, hb⟩ := hM.ex
  exact j_of (pe_meth (E := E0) pE cl hm F (hr.mono hk) hb .nil pass0 pA hst hpl ht) (ep_meth (K := X.K) ho.ev hc hf ha hs)
theorem j_meth0 {C c dx : Addr} {fs : List (PySem.Str × V)} {pl : Sem Bool} (hM : Mt X.prog X.w X.K X.mg X.base k C m pre) (cl : Cls X.K C) (hr : Room j X.A) (ho : J X o σ N (mIs (.ref c))) (hc : N c = some (.ins C dx fs)) (hf : fs.lookup m = none)
    (hs : ∀ M, Ex N M → pre [.ref c] M P) (hk : k ≤ j := by decide)
    (ht : eval (.Call (.Attribute o m apos) [] [] pos) X.env = (do
      let ov ← eval o X.env
      standAt apos.atName
      let (f, first) ← holding [ov] (getMethod ov m pl)
      callWith pos f first (backTo pos (starEach [] X.env)) (backToKw pos (keywordEach [] X.env))) := by rfl) : J X (.Call (.Attribute o m apos) [] [] pos) σ N P := by
  obtain ⟨f, fd, ps, F, hm, hb⟩ := hM.ex
  exact j_of (pe_meth0 (E := E0) pE cl hm F (hr.mono hk) hb .nil pass0 ht) (ep_meth (K := X.K) ho.ev hc hf ea_nilP fun vs M g h => by
    have h' : vs = [] := h
    subst h'
    exact hs M g)
/-- built-in functions and types -/
theorem j_cb {id : String} {r : List V → Hp → VK → Prop} (hc : CallR X (.builtin id) r) (hm : X.mg x = none) (hv : bootBuiltins x = some (.builtin id)) (ha : JA X (e :: es) σ N L) (hr : ∀ vs M, Ex N M → L.p vs M → RC1 r vs M P) (hg : Gl X x := by rfl) (hn : x ≠ "__name__" := by decide)
    (hdb : (x == ("__debug__" : PySem.Str)) = false := by decide) (he : starEach (e :: es) X.env = (false, eval e X.env) :: starEach es X.env := by rfl) (hpl : (backTo pos (starEach es X.env)).any (·.1) = false := by rfl) : J X (.Call (.Name x p) (e :: es) [] pos) σ N P :=
  j_of (pe_callB hc hg hm hv pA hn hdb he hpl) (ep_cb ha hr)
theorem j_cty {T : String} {r : List V → Hp → VK → Prop} (hc : CallR X (.type T) r) (hm : X.mg x = none) (hv : bootBuiltins x = some (.type T)) (ha : JA X (e :: es) σ N L) (hr : ∀ vs M, Ex N M → L.p vs M → RC1 r vs M P) (hg : Gl X x := by rfl) (hn : x ≠ "__name__" := by decide)
    (hdb : (x == ("__debug__" : PySem.Str)) = false := by decide) (he : starEach (e :: es) X.env = (false, eval e X.env) :: starEach es X.env := by rfl) (hpl : (backTo pos (starEach es X.env)).any (·.1) = false := by rfl) : J X (.Call (.Name x p) (e :: es) [] pos) σ N P :=
  j_of (pe_callTy hc hg hm hv pA hn hdb he hpl) (ep_cb ha hr)
end

/-! ### what is walked: n items, the i-th of I i -/
structure Wk (Jt : It) (N : Hp) (n : Nat) (I : Nat → MP) : Prop where
  go : ∀ i H, i < n → Ex N H → Jt.go i H
  stop : ∀ H, Ex N H → Jt.stop n H
  yld : ∀ i H x H', i < n → Ex N H → Jt.yld i H x H' → ∃ M, Gr N H M H' ∧ (I i).p x M
def JI (wi : TI) (σ : L2.St) (N : Hp) (n : Nat) (I : Nat → MP) : Prop := ∀ C, Ex N C → ∀ R : It → Hp → Prop, (∀ Jt N1 C1, Gr N C N1 C1 → Wk Jt N1 n I → R Jt C1) → wi σ C R
section
variable {X : Cx} {e : Expr} {σ : L2.St} {N : Hp} {K : PySem.W.Frag}
theorem ji_range {ta : TA} {n : Nat} {i : Int} (h : EvAP ta σ N (lCons (mIs (.int i)) lNil)) (hi : i = n) (hn : n ≤ 100000) : JI (iRng1 ta) σ N n fun j => mIs (.int (j : Nat)) := fun C eC R k =>
  h C eC _ fun vs N1 C1 g p => by
    obtain ⟨v, r, rfl, hv, hr⟩ := p
    have hv' : v = _ := hv
    have hr' : r = [] := hr
    subst hv' hr' hi
    refine ⟨_, rfl, by omega, by omega, k _ N1 C1 g ⟨fun i H h _ => ?_, fun H _ => ?_, fun i H x H' h e y => ?_⟩⟩
    · show i < ((n : Int)).toNat; omega
    · show ((n : Int)).toNat ≤ n; omega
    · have y' : H' = H ∧ x = .int (0 + (i : Nat)) := y
      obtain ⟨rfl, rfl⟩ := y'
      exact ⟨N1, Gr.refl e, by show V.int (0 + (i : Nat)) = V.int (i : Nat); rw [Int.zero_add]⟩
theorem ji_list {tl : TE} {ds : List PyData} (h : EvP tl σ N (mD K (.list ds))) : JI (iList K tl) σ N ds.length fun j => mR K fun d => ds[j]? = some d := fun C eC R k =>
  h C eC _ fun v N1 C1 g p => by
    obtain ⟨a, xs, rfl, hs, hd⟩ := dp_lst p
    have hl : xs.length = ds.length := dps_len hd
    refine ⟨a, rfl, ⟨xs, ex_l g.sub hs⟩, k _ N1 C1 g ⟨fun i H h e => ?_, fun H e => ⟨xs, ex_l e hs, by rw [hl]; exact Nat.le_refl _⟩, fun i H x H' h e y => ?_⟩⟩
    · obtain ⟨x, hx⟩ : ∃ x, xs[i]? = some x := ⟨_, List.getElem?_eq_getElem (by rw [hl]; exact h)⟩
      exact ⟨xs, x, ex_l e hs, hx⟩
    · have y' : H' = H ∧ ∀ xs, SqL K H a xs → xs[i]? = some x := y
      obtain ⟨rfl, y2⟩ := y'
      obtain ⟨d, h1, h2⟩ := dps_get hd (y2 xs (ex_l e hs))
      exact ⟨N1, Gr.refl e, d, h1, h2⟩
theorem ji_tup {tl : TE} {ds : List PyData} (h : EvP tl σ N (mD K (.tuple ds))) : JI (iTup K tl) σ N ds.length fun j => mR K fun d => ds[j]? = some d := fun C eC R k =>
  h C eC _ fun v N1 C1 g p => by
    obtain ⟨a, xs, rfl, hs, hd⟩ := dp_tup p
    have hl : xs.length = ds.length := dps_len hd
    refine ⟨a, rfl, ⟨xs, ex_t g.sub hs⟩, k _ N1 C1 g ⟨fun i H h e => ?_, fun H e => ⟨xs, ex_t e hs, by rw [hl]; exact Nat.le_refl _⟩, fun i H x H' h e y => ?_⟩⟩
    · obtain ⟨x, hx⟩ : ∃ x, xs[i]? = some x := ⟨_, List.getElem?_eq_getElem (by rw [hl]; exact h)⟩
      exact ⟨xs, x, ex_t e hs, hx⟩
    · have y' : H' = H ∧ ∀ xs, SqT K H a xs → xs[i]? = some x := y
      obtain ⟨rfl, y2⟩ := y'
      obtain ⟨d, h1, h2⟩ := dps_get hd (y2 xs (ex_t e hs))
      exact ⟨N1, Gr.refl e, d, h1, h2⟩
end

/-! ### for -/
/-- Pv N1 i σ C: ahead of turn i; N1 the part behind the walked thing's reading -/
theorem r_for {X : Cx} {tg iter : Expr} {body rest : List Stmt} {wi : TI} {g : TG} {pos : Pos} {σ : L2.St} {N C : Hp} {D : Ends} {n : Nat} {I : Nat → MP} (hi : PI X tg iter wi) (hw : JI wi σ N n I) (eN : Ex N C) (hg : PG X tg g) (hp : PassesOwn (model X.prog X.w) X.A X.env X.xe) (hc : X.calm = true)
    (Pv : Hp → Nat → L2.St → Hp → Prop) (h0 : ∀ N1 C1, Gr N C N1 C1 → Pv N1 0 σ C1) (hx : ∀ N1 i σ2 C2, Pv N1 i σ2 C2 → Ex N1 C2)
    (hs : ∀ N1 i x σ2 C2 M C3, Ex N N1 → i < n → Pv N1 i σ2 C2 → Gr N1 C2 M C3 → (I i).p x M → g x σ2 C3 (tR X body { D with nx := Pv N1 (i + 1), ct := Pv N1 (i + 1), bk := tR X rest D }))
    (hd : ∀ N1 σ2 C2, Ex N N1 → Pv N1 n σ2 C2 → tR X rest D σ2 C2) (hf : ∀ x, foldedSetIterable iter X.env x = pure x := by intro _; rfl) : tR X (.For tg iter body [] pos :: rest) D σ C := by
  refine r_of (ps_for hp hc hi hg pR hf) (hw C eN _ fun Jt N1 C1 gr wk => ?_)
  have W : Walk Jt n (fun H => Ex N1 H) (fun i H x H' => ∃ M, Gr N1 H M H' ∧ (I i).p x M) := ⟨fun i H h e => wk.go i H h e, fun H e => wk.stop H e, fun i H x H' h e y => wk.yld i H x H' h e y⟩
  refine for_it W (Pv N1) (h0 N1 C1 gr) (fun i σ2 H _ h => hx N1 i σ2 H h) (fun i x σ2 H H' hi2 hP y => ?_) fun σ2 H h => hd N1 σ2 H gr.up h
  obtain ⟨M, gM, hpx⟩ := y
  exact hs N1 i x σ2 H M H' gr.up hi2 hP gM hpx

/-! ### list comprehensions -/
inductive F2 {α β : Type} (E : α → β → Prop) : List α → List β → Prop
  | nil : F2 E [] []
  | cons {a : α} {b : β} {as : List α} {bs : List β} : E a b → F2 E as bs → F2 E (a :: as) (b :: bs)
theorem F2.snoc {α β : Type} {E : α → β → Prop} {a : α} {b : β} (h : E a b) : ∀ {as : List α} {bs : List β}, F2 E as bs → F2 E (as ++ [a]) (bs ++ [b])
  | _, _, .nil => .cons h .nil
  | _, _, .cons k r => .cons k (F2.snoc h r)
theorem F2.map {α β : Type} {f : α → β} : ∀ {as : List α} {bs : List β}, F2 (fun a b => b = f a) as bs → bs = as.map f
  | _, _, .nil => rfl
  | _, _, .cons h r => by rw [List.map_cons, h, F2.map r]
theorem F2.len {α β : Type} {E : α → β → Prop} : ∀ {as : List α} {bs : List β}, F2 E as bs → bs.length = as.length
  | _, _, .nil => rfl
  | _, _, .cons _ r => by rw [List.length_cons, List.length_cons, F2.len r]
theorem F2.mono {α β : Type} {E E' : α → β → Prop} : ∀ {as : List α} {bs : List β}, F2 E as bs → (∀ a b, a ∈ as → E a b → E' a b) → F2 E' as bs
  | _, _, .nil, _ => .nil
  | _, _, .cons h r, k => .cons (k _ _ (List.mem_cons_self ..) h) (r.mono fun a b m e => k a b (List.mem_cons_of_mem _ m) e)
theorem F2.all {α β : Type} {E : α → β → Prop} {R : β → Prop} : ∀ {as : List α} {bs : List β}, F2 E as bs → (∀ a b, a ∈ as → E a b → R b) → ∀ b ∈ bs, R b
  | _, _, .nil, _, b, m => by cases m
  | _, _, .cons h r, k, b, m => by
    rcases List.mem_cons.mp m with e | m
    · subst e; exact k _ _ (List.mem_cons_self ..) h
    · exact r.all (fun a b m e => k a b (List.mem_cons_of_mem _ m) e) b m
theorem range_filter (bs : Nat → Bool) (i : Nat) : (List.range (i + 1)).filter bs = if bs i = true then (List.range i).filter bs ++ [i] else (List.range i).filter bs := by
  rw [List.range_succ, List.filter_append]
  by_cases h : bs i = true
  · rw [if_pos h, List.filter_cons_of_pos h] <;> rfl
  · rw [if_neg h, List.filter_cons_of_neg h, List.filter_nil, List.append_nil]
theorem ep_lc {K : PySem.W.Frag} {wi : TI} {g : TG} {tt : TT} {te : TE} {vs : List Nat} {σ : L2.St} {N : Hp} {n : Nat} {I : Nat → MP} (E : Nat → PyData → Prop) (bs : Nat → Bool) (hw : JI wi σ N n I) (hn : n ≤ 100000)
    (body : ∀ i x M, i < n → Ex N M → (I i).p x M → ∀ C, Ex M C → g x (wipe σ vs) C fun σ2 C2 => wipe σ2 vs = wipe σ vs ∧ ∃ M2, Gr M C M2 C2 ∧ EvT tt σ2 M2 (bs i) ∧ (bs i = true → EvP te σ2 M2 (mR K (E i)))) 
    (gm : ∀ x s C (Q Q' : L2.St → Hp → Prop), (∀ a b, Q a b → Q' a b) → g x s C Q → g x s C Q') :
    EvP (tLc wi g tt te vs) σ N (mNL N K (F2 E ((List.range n).filter bs))) := fun C eC Q q => hw C eC _ fun Jt N1 C1 gr wk D hD => by
  have W : Walk Jt n (fun H => Ex N1 H) (fun i H x H' => ∃ M, Gr N1 H M H' ∧ (I i).p x M) := ⟨fun i H h e => wk.go i H h e, fun H e => wk.stop H e, fun i H x H' h e y => wk.yld i H x H' h e y⟩
  have hN1 : N1 D = none := fresh_back gr.sub hD
  let Pv : Nat → Hp → Prop := fun i H => ∃ (Mi : Hp) (acc : List V) (ds : List PyData), Gr N1 C1 Mi H ∧ Mi D = none ∧ H D = some (.lst acc) ∧ DpAll K Mi acc ds ∧ F2 E ((List.range i).filter bs) ds ∧ acc.length ≤ i
  refine lc_it W Pv ⟨N1, [], [], (Gr.refl gr.sub).grow (Ex.new hD), hN1, upd_same, .nil, .nil, Nat.le_refl _⟩ (fun i H _ ⟨Mi, _, _, gi, _⟩ => gi.up.trans gi.sub) (fun i x H H' hi ⟨Mi, acc, ds, gi, hMi, hH, hd, hf, hl⟩ ⟨M, gM, hp⟩ => ?_) fun H ⟨Mi, acc, ds, gi, hMi, hH, hd, hf, hl⟩ => ?_
  · obtain ⟨g1, e1⟩ := gM.more gi.up gi.sub
    refine gm _ _ _ _ _ (fun σ2 C2 hh => ?_) (body i x (un Mi M) hi ((gr.up.trans gi.up).trans g1.up) ((I i).mono e1 hp) H' g1.sub)
    obtain ⟨hwp, M2, g2, ht, he⟩ := hh
    refine ⟨hwp, ht C2 g2.sub _ fun C3 e3 => ?_⟩
    have g3 : Gr Mi H M2 C3 := g1.trans (g2.grow e3)
    have rf := range_filter bs i
    cases hb : bs i with
    | true =>
      refine iteT (he hb C3 g3.sub _ fun y N4 C4 g4 py => ?_)
      obtain ⟨d, hE, hy⟩ := py
      have g5 : Gr Mi H N4 C4 := g3.trans g4
      have h4 : N4 D = none := g5.out hMi hH
      refine ⟨acc, g5.ext D _ hH, sz_lt (by omega), N4, acc ++ [y], ds ++ [d], (gi.trans g5).mut hD h4, h4, upd_same, dps_snoc (dps_mono g5.up hd) hy, ?_, ?_⟩
      · rw [rf, if_pos hb]; exact F2.snoc hE hf
      · rw [List.length_append, List.length_singleton]; omega
    | false =>
      refine iteF ⟨M2, acc, ds, gi.trans g3, g3.out hMi hH, g3.ext D _ hH, dps_mono g3.up hd, ?_, by omega⟩
      rw [rf, if_neg (by rw [hb]; exact Bool.false_ne_true)]
      exact hf
  · have gT : Gr N C (upd Mi D (.lst acc)) H := (gr.trans gi).take hH (fresh_back gr.ext hD) (fresh_back gr.up hN1)
    refine q (.ref D) (upd Mi D (.lst acc)) H gT ⟨D, acc, ds, rfl, fresh_back gr.up hN1, upd_same, dps_mono (Ex.new hMi) hd, hf⟩
theorem gm_name {i : Nat} : ∀ x s C (Q Q' : L2.St → Hp → Prop), (∀ a b, Q a b → Q' a b) → gName i x s C Q → gName i x s C Q' := fun _ _ _ _ _ k h => k _ _ h
theorem evb {X : Cx} {scope : Scope} {e : Expr} {σ : L2.St} {N : Hp} {P : MP} (h : BlkIs X scope fun Y => J Y e σ N P) : EvP (tEb X scope e) σ N P := fun C eC Q q s0 H0 C0 cl fp => h s0 H0 C0 cl fp C eC Q q
theorem evt {X : Cx} {scope : Scope} {es : List Expr} {σ : L2.St} {N : Hp} {b : Bool} (h : BlkIs X scope fun Y => JTs Y es σ N b) : EvT (tTsb X scope es) σ N b := fun C eC Q q s0 H0 C0 cl fp => h s0 H0 C0 cl fp C eC Q q
theorem jts_nil {X : Cx} {σ : L2.St} {N : Hp} : JTs X [] σ N true := fun C eC Q q => le_Ts pts_nil (q C (Ex.refl C))
theorem jts_one {X : Cx} {c : Expr} {σ : L2.St} {N : Hp} {b : Bool} (h : JT X c σ N b) : JTs X [c] σ N b := fun C eC Q q => le_Ts (pts_one pT) (h C eC Q q)
section
variable {X : Cx} {elt tg iter : Expr} {ifs : List Expr} {scope : Scope} {own : List (PySem.Str × Nat)} {pos spos py : Pos} {wi : TI} {σ : L2.St} {N C : Hp} {n j i0 : Nat} {I : Nat → MP} {K : PySem.W.Frag} {y : PySem.Str} {D : Ends} {rest : List Stmt}
/-- [elt for name in ..]; j the name's place -/
theorem j_lc (E : Nat → PyData → Prop) (bs : Nat → Bool) (j : Nat) (hc : X.calm = true) (hN : X.N.Nodup) (hi : PI X tg iter wi) (hw : JI wi σ N n I) (hn : n ≤ 100000) (ok : BlkOk X.N X.env.scope scope own) (hg : BlkIs X scope fun Y => PG Y tg (gName j))
    (hwp : ∀ x, wipe ((wipe σ (own.map (·.2))).set j x) (own.map (·.2)) = wipe σ (own.map (·.2)))
    (body : ∀ i x M, i < n → Ex N M → (I i).p x M → BlkIs X scope (fun Y => JTs Y ifs ((wipe σ (own.map (·.2))).set j (some x)) M (bs i)) ∧ (bs i = true → BlkIs X scope fun Y => J Y elt ((wipe σ (own.map (·.2))).set j (some x)) M (mR K (E i))))
    (hs : ∀ x, foldedSetIterable iter X.env x = pure x := by intro _; rfl) : J X (.ListComp elt [⟨tg, iter, ifs, 0⟩] scope pos) σ N (mNL N K (F2 E ((List.range n).filter bs))) :=
  j_of (pe_lc hc hN hi ok hg pTsb pEb hs) (ep_lc E bs hw hn (fun i x M hi' eM hp C eC => ⟨hwp _, M, Gr.refl eC, evt (body i x M hi' eM hp).1, fun hb => evb ((body i x M hi' eM hp).2 hb)⟩) gm_name)
theorem r_setLc (i0 : Nat) (E : Nat → PyData → Prop) (bs : Nat → Bool) (j : Nat) (eN : Ex N C) (hc : X.calm = true) (hN : X.N.Nodup) (hi : PI X tg iter wi) (hw : JI wi σ N n I) (hn : n ≤ 100000) (ok : BlkOk X.N X.env.scope scope own) (hg : BlkIs X scope fun Y => PG Y tg (gName j))
    (hwp : ∀ x, wipe ((wipe σ (own.map (·.2))).set j x) (own.map (·.2)) = wipe σ (own.map (·.2)))
    (body : ∀ i x M, i < n → Ex N M → (I i).p x M → BlkIs X scope (fun Y => JTs Y ifs ((wipe σ (own.map (·.2))).set j (some x)) M (bs i)) ∧ (bs i = true → BlkIs X scope fun Y => J Y elt ((wipe σ (own.map (·.2))).set j (some x)) M (mR K (E i))))
    (k : ∀ v N' C', Gr N C N' C' → (mNL N K (F2 E ((List.range n).filter bs))).p v N' → tR X rest D (σ.set i0 (some v)) C')
    (hy : X.N[i0]? = some y := by rfl) (hyl : X.env.scope.names.lookup y = some .local := by rfl) (hsw : swapsWith (.ListComp elt [⟨tg, iter, ifs, 0⟩] scope pos) (some (.Name y py)) spos.line X.env = pure true := by rfl)
    (hs : ∀ x, foldedSetIterable iter X.env x = pure x := by intro _; rfl) : tR X (.Assign [.Name y py] (.ListComp elt [⟨tg, iter, ifs, 0⟩] scope pos) spos :: rest) D σ C :=
  r_of (ps_setLc hc hN hy hyl hsw hi ok hg pTsb pEb hs) (ep_lc E bs hw hn (fun i x M hi' eM hp C eC => ⟨hwp _, M, Gr.refl eC, evt (body i x M hi' eM hp).1, fun hb => evb ((body i x M hi' eM hp).2 hb)⟩) gm_name C eN _ k)
end
end Gs

set_option Elab.async false
set_option linter.all false
set_option maxHeartbeats 4000000
/-! GsW: the state of the catalog in plain words; the mathematics of demands. -/
namespace Gs
open PySem

abbrev Wn := Int × Option Int
def reachB (h : Option Int) (v : Int) : Bool := match h with
  | none => true
  | some x => decide (v ≤ x)
def WinOk (q : Wn) : Prop := 0 ≤ q.1 ∧ ∀ h, q.2 = some h → q.1 ≤ h
/-- the second window rises from the first -/
def RiseOk (p q : Wn) : Prop := p.1 ≤ q.1 ∧ match p.2 with
  | none => q.2 = none
  | some h => reachB q.2 h = true
structure Wr where
  us : List (Str × List Str)
  win : Str → Str → List Wn
  cnt : Str → Nat
  wd : Str → List Int
namespace Wr
def mods (W : Wr) : List Str := W.us.map (·.1)
def there (W : Wr) (m : Str) : List Int := ((List.range (W.cnt m)).filter fun i : Nat => !decide ((i : Int) ∈ W.wd m)).map fun i : Nat => (i : Int)
def usesOf (W : Wr) (m : Str) : List Str := match W.us.find? (fun p => decide (p.1 = m)) with
  | some p => p.2
  | none => []
def users (W : Wr) (m : Str) : List Str := (W.us.filter fun p => decide (m ∈ p.2)).map (·.1)
end Wr
def firstR (ws : List Wn) (t : Int) : Nat := ws.findIdx fun q => reachB q.2 t
/-- what follows from version t of m, as it is found -/
def foundL (W : Wr) (m : Str) (t : Int) : List (Str × Int) :=
  (W.usesOf m).map (fun n => (n, ((W.win m n).getD t.toNat (0, none)).1)) ++ (W.users m).map fun u => (u, (firstR (W.win u m) t : Int))
def addN (acc : List (Str × Int)) (d : Str × Int) : List (Str × Int) := if d ∈ acc then acc else acc ++ [d]
def dueL (W : Wr) (m : Str) (t : Int) : List (Str × Int) := ((foundL W m t).filter fun d => decide (0 < d.2)).foldl addN []

/-! ### each once, in order -/
theorem mem_addN {acc : List (Str × Int)} {d e : Str × Int} : e ∈ addN acc d ↔ e ∈ acc ∨ e = d := by
  unfold addN
  by_cases h : d ∈ acc
  · rw [if_pos h]
    constructor
    · exact Or.inl
    · rintro (h1 | rfl)
      · exact h1
      · exact h
  · rw [if_neg h, List.mem_append, List.mem_singleton]
theorem mem_foldN : ∀ (l acc : List (Str × Int)) (e : Str × Int), e ∈ l.foldl addN acc ↔ e ∈ acc ∨ e ∈ l
  | [], acc, e => by simp
  | d :: l, acc, e => by
    rw [List.foldl_cons, mem_foldN l, mem_addN, List.mem_cons]
    constructor
    · rintro ((h | h) | h)
      · exact .inl h
      · exact .inr (.inl h)
      · exact .inr (.inr h)
    · rintro (h | h | h)
      · exact .inl (.inl h)
      · exact .inl (.inr h)
      · exact .inr h
/-- the law's way to say it: the k-th of l, where it is asked and not among the first k -/
def onceL (l : List (Str × Int)) : List (Str × Int) := ((List.range l.length).filter fun k => match l[k]? with
  | some d => decide (0 < d.2) && !decide (d ∈ l.take k)
  | none => false).map fun k => l.getD k (⟨#[]⟩, 0)
theorem range_filter' (p : Nat → Bool) (i : Nat) : (List.range (i + 1)).filter p = if p i = true then (List.range i).filter p ++ [i] else (List.range i).filter p := by
  rw [List.range_succ, List.filter_append]
  by_cases h : p i = true
  · rw [if_pos h, List.filter_cons_of_pos h] <;> rfl
  · rw [if_neg h, List.filter_cons_of_neg h, List.filter_nil, List.append_nil]
theorem once_snoc (l : List (Str × Int)) (d : Str × Int) : onceL (l ++ [d]) = if 0 < d.2 ∧ d ∉ l then onceL l ++ [d] else onceL l := by
  have e1 : ∀ k, k < l.length → (l ++ [d])[k]? = l[k]? := fun k h => List.getElem?_append_left h
  have e2 : ∀ k, k < l.length → (l ++ [d]).take k = l.take k := fun k h => by rw [List.take_append_of_le_length (Nat.le_of_lt h)]
  have e3 : ∀ k, k < l.length → (l ++ [d]).getD k (⟨#[]⟩, 0) = l.getD k (⟨#[]⟩, 0) := fun k h => by rw [List.getD_eq_getElem?_getD, List.getD_eq_getElem?_getD, e1 k h]
  unfold onceL
  rw [List.length_append, List.length_singleton, range_filter']
  have h1 : (List.range l.length).filter (fun k => match (l ++ [d])[k]? with
      | some x => decide (0 < x.2) && !decide (x ∈ (l ++ [d]).take k)
      | none => false) = (List.range l.length).filter (fun k => match l[k]? with
      | some x => decide (0 < x.2) && !decide (x ∈ l.take k)
      | none => false) := by
    refine List.filter_congr fun k hk => ?_
    have hk' := List.mem_range.mp hk
    rw [e1 k hk', e2 k hk']
  have h2 : ∀ s : List Nat, (∀ k ∈ s, k < l.length) → s.map (fun k => (l ++ [d]).getD k (⟨#[]⟩, 0)) = s.map fun k => l.getD k (⟨#[]⟩, 0) := fun s hs => List.map_congr_left fun k hk => e3 k (hs k hk)
  have h3 : ∀ k ∈ (List.range l.length).filter (fun k => match l[k]? with
      | some x => decide (0 < x.2) && !decide (x ∈ l.take k)
      | none => false), k < l.length := fun k hk => List.mem_range.mp (List.mem_filter.mp hk).1
  have e4 : (l ++ [d])[l.length]? = some d := by rw [List.getElem?_append_right (Nat.le_refl _), Nat.sub_self] <;> rfl
  have e5 : (l ++ [d]).take l.length = l := by rw [List.take_append_of_le_length (Nat.le_refl _), List.take_length]
  rw [h1]
  simp only [e4, e5]
  by_cases h : 0 < d.2 ∧ d ∉ l
  · have hb : (decide (0 < d.2) && !decide (d ∈ l)) = true := by rw [decide_eq_true h.1, decide_eq_false h.2] <;> rfl
    rw [if_pos hb, if_pos h, List.map_append, h2 _ h3, List.map_singleton]
    have e6 : (l ++ [d]).getD l.length (⟨#[]⟩, 0) = d := by rw [List.getD_eq_getElem?_getD, e4] <;> rfl
    rw [e6]
  · have hb : ¬ (decide (0 < d.2) && !decide (d ∈ l)) = true := fun z => h (by
      rw [Bool.and_eq_true, Bool.not_eq_true', decide_eq_true_eq, decide_eq_false_iff_not] at z
      exact z)
    rw [if_neg hb, if_neg h, h2 _ h3]
theorem once_fold (l : List (Str × Int)) : onceL l = (l.filter fun d => decide (0 < d.2)).foldl addN [] := by
  have key : ∀ (r l : List (Str × Int)), onceL l = (l.filter fun d => decide (0 < d.2)).foldl addN [] → onceL (l ++ r) = ((l ++ r).filter fun d => decide (0 < d.2)).foldl addN [] := by
    intro r
    induction r with
    | nil => intro l h; rw [List.append_nil]; exact h
    | cons d r ih =>
      intro l h
      have e : l ++ d :: r = (l ++ [d]) ++ r := by simp
      rw [e]
      refine ih (l ++ [d]) ?_
      rw [once_snoc, List.filter_append, List.foldl_append]
      by_cases h0 : 0 < d.2
      · rw [List.filter_cons_of_pos (by exact decide_eq_true h0), List.filter_nil, List.foldl_cons, List.foldl_nil, ← h]
        have hm : d ∈ onceL l ↔ d ∈ l := by
          rw [h, mem_foldN]
          constructor
          · rintro (z | z)
            · cases z
            · exact (List.mem_filter.mp z).1
          · intro z
            exact .inr (List.mem_filter.mpr ⟨z, by exact decide_eq_true h0⟩)
        unfold addN
        by_cases hd : d ∈ l
        · rw [if_neg (fun z => z.2 hd), if_pos (hm.mpr hd)]
        · rw [if_pos ⟨h0, hd⟩, if_neg (fun z => hd (hm.mp z))]
      · rw [List.filter_cons_of_neg (by simpa using h0), List.filter_nil, List.foldl_nil, if_neg (fun z => h0 z.1), h]
  have := key l [] rfl
  simpa using this

/-! ### what a good state is -/
def letters : Str := "abcdefghijklmnopqrstuvwxyz"
def NameOk (z : Str) : Prop := 1 ≤ z.length ∧ z.length ≤ 8 ∧ ∀ c ∈ z.cps.toList, c ∈ letters.cps.toList
structure WOk (W : Wr) : Prop where
  nd : W.mods.Nodup
  few : W.us.length ≤ 3
  ns : ∀ m ns, (m, ns) ∈ W.us → ns.Nodup ∧ (∀ n ∈ ns, n ∈ W.mods ∧ n ≠ m)
  len : ∀ m ns n, (m, ns) ∈ W.us → n ∈ ns → (W.win m n).length = W.cnt m
  ok : ∀ m n, ∀ q ∈ W.win m n, WinOk q
  low : ∀ m n, ((W.win m n).map (·.1)).Pairwise (· ≤ ·)
  small : ∀ m n, ∀ q ∈ W.win m n, q.1 ≤ 100 ∧ ∀ h, q.2 = some h → h ≤ 100
  cs : ∀ m, W.cnt m ≤ 10
  nm : ∀ m ∈ W.mods, NameOk m
theorem WOk.usesOf {W : Wr} (o : WOk W) {m : Str} {ns : List Str} (h : (m, ns) ∈ W.us) : W.usesOf m = ns := by
  have nd := o.nd
  unfold Wr.usesOf
  have key : ∀ l : List (Str × List Str), (l.map (·.1)).Nodup → (m, ns) ∈ l → l.find? (fun p => decide (p.1 = m)) = some (m, ns) := by
    intro l
    induction l with
    | nil => intro _ h; cases h
    | cons p l ih =>
      intro nd h
      rw [List.map_cons, List.nodup_cons] at nd
      rcases List.mem_cons.mp h with e | h
      · subst e; simp
      · have hne : p.1 ≠ m := fun e => nd.1 (by rw [e]; exact List.mem_map.mpr ⟨_, h, rfl⟩)
        rw [List.find?_cons_of_neg (by simpa using hne)]
        exact ih nd.2 h
  rw [key W.us nd h]
theorem mem_us {W : Wr} {m : Str} (h : m ∈ W.mods) : ∃ ns, (m, ns) ∈ W.us := by
  obtain ⟨⟨a, ns⟩, h1, rfl⟩ := List.mem_map.mp h
  exact ⟨ns, h1⟩
theorem us_mem {W : Wr} {m : Str} {ns : List Str} (h : (m, ns) ∈ W.us) : m ∈ W.mods := List.mem_map.mpr ⟨_, h, rfl⟩
theorem mem_users {W : Wr} {m u : Str} (h : u ∈ W.users m) : ∃ ns, (u, ns) ∈ W.us ∧ m ∈ ns := by
  obtain ⟨⟨a, ns⟩, h1, rfl⟩ := List.mem_map.mp h
  obtain ⟨h1, h2⟩ := List.mem_filter.mp h1
  exact ⟨ns, h1, by simpa using h2⟩
theorem there_mem {W : Wr} {m : Str} {i : Int} : i ∈ W.there m ↔ ∃ k : Nat, i = k ∧ k < W.cnt m ∧ i ∉ W.wd m := by
  unfold Wr.there
  rw [List.mem_map]
  constructor
  · rintro ⟨k, hk, rfl⟩
    obtain ⟨h1, h2⟩ := List.mem_filter.mp hk
    exact ⟨k, rfl, List.mem_range.mp h1, by simpa using h2⟩
  · rintro ⟨k, rfl, h1, h2⟩
    exact ⟨k, List.mem_filter.mpr ⟨List.mem_range.mpr h1, by simpa using h2⟩, rfl⟩
theorem there_sorted (W : Wr) (m : Str) : (W.there m).Pairwise (· < ·) := by
  unfold Wr.there
  rw [List.pairwise_map]
  refine List.Pairwise.imp (fun {a b} (h : a < b) => Int.ofNat_lt.mpr h) ?_
  exact List.Pairwise.filter _ List.pairwise_lt_range
/-- the first of those that are not less is the least -/
theorem head_least {l : List Int} (h : l.Pairwise (· < ·)) {v t : Int} {r : List Int} (e : l.filter (fun x => decide (v ≤ x)) = t :: r) : t ∈ l ∧ v ≤ t ∧ ∀ x ∈ l, v ≤ x → t ≤ x := by
  have hm : t ∈ l.filter (fun x => decide (v ≤ x)) := by rw [e]; exact List.mem_cons_self ..
  obtain ⟨h1, h2⟩ := List.mem_filter.mp hm
  refine ⟨h1, by simpa using h2, fun x hx hv => ?_⟩
  have hx' : x ∈ l.filter (fun x => decide (v ≤ x)) := List.mem_filter.mpr ⟨hx, by simpa using hv⟩
  have hp := List.Pairwise.filter (fun x => decide (v ≤ x)) h
  rw [e] at hx' hp
  rcases List.mem_cons.mp hx' with rfl | hx'
  · exact Int.le_refl _
  · exact Int.le_of_lt ((List.pairwise_cons.mp hp).1 x hx')

/-! ### consistent states -/
def contB (q : Wn) (v : Int) : Bool := decide (q.1 ≤ v) && (match q.2 with
  | none => true
  | some h => decide (v ≤ h))
/-- a state: a version for each module; f m is m's -/
structure StOk (W : Wr) (f : Str → Int) : Prop where
  th : ∀ m ∈ W.mods, f m ∈ W.there m
  ct : ∀ m ns n, (m, ns) ∈ W.us → n ∈ ns → contB ((W.win m n).getD (f m).toNat (0, none)) (f n) = true
theorem low_le {W : Wr} (o : WOk W) {m : Str} {ns : List Str} {n : Str} (h1 : (m, ns) ∈ W.us) (h2 : n ∈ ns) {i j : Nat} (hij : i ≤ j) (hj : j < W.cnt m) : ((W.win m n).getD i (0, none)).1 ≤ ((W.win m n).getD j (0, none)).1 := by
  have hl := o.len m ns n h1 h2
  have hp := o.low m n
  rcases Nat.lt_or_ge i j with hlt | hge
  · have hi : i < (W.win m n).length := by omega
    have hj' : j < (W.win m n).length := by omega
    have := (List.pairwise_iff_getElem.mp hp) i j (by simpa using hi) (by simpa using hj') hlt
    rw [List.getElem_map, List.getElem_map] at this
    rw [List.getD_eq_getElem?_getD, List.getD_eq_getElem?_getD, List.getElem?_eq_getElem hi, List.getElem?_eq_getElem hj']
    exact this
  · have : i = j := Nat.le_antisymm hij hge
    subst this
    exact Int.le_refl _
theorem firstR_le {ws : List Wn} {t : Int} {k : Nat} {q : Wn} (h : ws[k]? = some q) (hr : reachB q.2 t = true) : firstR ws t ≤ k := by
  unfold firstR
  obtain ⟨hk, e⟩ := List.getElem?_eq_some_iff.mp h
  refine Nat.le_of_not_lt fun hlt => ?_
  have := List.not_of_lt_findIdx hlt
  rw [e, hr] at this
  exact absurd this (by decide)
/-- each consistent state that meets the demand meets what follows -/
theorem meets_due {W : Wr} (o : WOk W) {f : Str → Int} (S : StOk W f) {m : Str} (hm : m ∈ W.mods) {v t : Int} {r : List Int} (e : (W.there m).filter (fun x => decide (v ≤ x)) = t :: r) (hf : v ≤ f m) {d : Str × Int} (hd : d ∈ dueL W m t) : d.2 ≤ f d.1 := by
  obtain ⟨ht1, ht2, ht3⟩ := head_least (there_sorted W m) e
  have htm := ht3 (f m) (S.th m hm) hf
  obtain ⟨kt, rfl, hkt, _⟩ := there_mem.mp ht1
  obtain ⟨ks, hks, hks2, _⟩ := there_mem.mp (S.th m hm)
  unfold dueL at hd
  rw [mem_foldN] at hd
  rcases hd with hd | hd
  · cases hd
  obtain ⟨hd, _⟩ := List.mem_filter.mp hd
  unfold foundL at hd
  rcases List.mem_append.mp hd with hd | hd
  · obtain ⟨n, hn, rfl⟩ := List.mem_map.mp hd
    obtain ⟨ns, hns⟩ := mem_us hm
    rw [o.usesOf hns] at hn
    have c := S.ct m ns n hns hn
    unfold contB at c
    rw [Bool.and_eq_true, decide_eq_true_eq] at c
    have l := low_le o hns hn (i := kt) (j := ks) (by omega) hks2
    rw [hks] at c
    show ((W.win m n).getD (kt : Int).toNat (0, none)).1 ≤ f n
    have e1 : ((kt : Int)).toNat = kt := by omega
    have e2 : ((ks : Int)).toNat = ks := by omega
    rw [e2] at c
    rw [e1]
    exact Int.le_trans l c.1
  · obtain ⟨u, hu, rfl⟩ := List.mem_map.mp hd
    obtain ⟨ns, hns, hmn⟩ := mem_users hu
    have c := S.ct u ns m hns hmn
    obtain ⟨ku, hku, hku2, _⟩ := there_mem.mp (S.th u (us_mem hns))
    have hl := o.len u ns m hns hmn
    have hg : (W.win u m)[ku]? = some ((W.win u m)[ku]'(by omega)) := List.getElem?_eq_getElem (by omega)
    rw [hku] at c
    have e2 : ((ku : Int)).toNat = ku := by omega
    rw [e2, List.getD_eq_getElem?_getD, hg] at c
    unfold contB at c
    rw [Bool.and_eq_true] at c
    have hr : reachB ((W.win u m)[ku]'(by omega)).2 (kt : Int) = true := by
      have c2 := c.2
      simp only [Option.getD_some] at c2
      cases hh : ((W.win u m)[ku]'(by omega)).2 with
      | none => rfl
      | some h =>
        rw [hh] at c2
        have c3 : f m ≤ h := by simpa using c2
        show decide ((kt : Int) ≤ h) = true
        exact decide_eq_true (Int.le_trans htm c3)
    have := firstR_le hg hr
    show (firstR (W.win u m) (kt : Int) : Int) ≤ f u
    rw [hku]
    omega
theorem meets_none {W : Wr} {f : Str → Int} (S : StOk W f) {m : Str} (hm : m ∈ W.mods) {v : Int} (e : (W.there m).filter (fun x => decide (v ≤ x)) = []) : ¬ v ≤ f m := fun h => by
  have : f m ∈ (W.there m).filter (fun x => decide (v ≤ x)) := List.mem_filter.mpr ⟨S.th m hm, by simpa using h⟩
  rw [e] at this
  cases this
end Gs

set_option Elab.async false
set_option linter.all false
set_option maxRecDepth 100000
set_option maxHeartbeats 4000000
/-! GsD0: a def by its body. -/
namespace Gs
open PySem PySem.Spec PyProof.Rows L2 Evl

def top (i : Nat) : Stmt := PySem.Challenge.pw_groupsteps_k34_whole_each_demand_is_a_mu.main.body.getD i (.Pass ⟨0, 0, 0, 0⟩)
/-- a def of the top, as it stands behind the top -/
def DF (K : PySem.W.Frag) (mg : PySem.Str → Option Value) (x : PySem.Str) (st : Stmt) : Prop := ∃ (f : Addr) (fd : FuncData), L2.Fun K x x st f fd ∧ mg x = some (.ref f)
/-- the built-in names -/
structure Bt (mg : PySem.Str → Option Value) : Prop where
  len : mg "len" = none
  isi : mg "isinstance" = none
  int : mg "int" = none
  bool : mg "bool" = none
  str : mg "str" = none
  tuple : mg "tuple" = none
  list : mg "list" = none
  dict : mg "dict" = none
  all : mg "all" = none
  sum : mg "sum" = none
  zip : mg "zip" = none
  range : mg "range" = none
  enum : mg "enumerate" = none
  repr : mg "repr" = none
  max : mg "max" = none
  min : mg "min" = none
  abs : mg "abs" = none
  dm : mg "divmod" = none

abbrev cxN (P : Program) (w : World) (K : PySem.W.Frag) (mg : PySem.Str → Option Value) (base : Heap) (N : List PySem.Str) (qual : PySem.Str) (st : Stmt) (f : Addr) (cdv : Value) (A : Around) (outer : List Env) (s : Shared) (H : Hp) (E : XK) : Cx :=
  (cxOf L2.CX0 P w K mg base N qual (defScope st) f cdv A outer s H E).nox
section
variable {P : Program} {w : World} {K : PySem.W.Frag} {mg : PySem.Str → Option Value} {base : Heap} {x qual : PySem.Str} {st : Stmt} {N ps : List PySem.Str} {k : Nat} {pre : List V → Hp → MP → Prop}
theorem fnok_of {f : Addr} {fd : FuncData} {sp : Sp} (F : L2.Fun K x qual st f fd) (S : C8.scC N ps (defScope st) = true) (len : ∀ vs C Q E, sp vs C Q E → vs.length = ps.length)
    (body : ∀ (cdv : Value) (A : Around) (outer : List Env) (s : Shared) (C : Hp) (E : XK) (vs : List V) (Q : VK), Room k (cxN P w K mg base N qual st f cdv A outer s C E).A → sp vs C Q E →
      tR (cxN P w K mg base N qual st f cdv A outer s C E) (defBody st) { nx := fun _ H' => Q .non H', rt := Q } (start N vs) C) : FnOk P w K mg base L2.CX0 (k + 1) f fd ps sp :=
  F.ok (C8.fnScope_by S) len fun cdv A outer s H vs Q E hr hsp => ⟨_, pR, body cdv A outer s H E vs Q hr hsp⟩
/-- the same for a promise that leaves all as it was -/
theorem fnok_p {f : Addr} {fd : FuncData} (F : L2.Fun K x qual st f fd) (S : C8.scC N ps (defScope st) = true) (len : ∀ vs M Pm, pre vs M Pm → vs.length = ps.length)
    (body : ∀ (cdv : Value) (A : Around) (outer : List Env) (s : Shared) (C : Hp) (E : XK) (vs : List V) (M : Hp) (Pm : MP) (D : Ends), Room k (cxN P w K mg base N qual st f cdv A outer s C E).A → Ex M C → pre vs M Pm → (∀ v N' C', Gr M C N' C' → Pm.p v N' → D.rt v C') → (∀ N' C' σ', Gr M C N' C' → Pm.p .non N' → D.nx σ' C') →
      tR (cxN P w K mg base N qual st f cdv A outer s C E) (defBody st) D (start N vs) C) : FnOk P w K mg base L2.CX0 (k + 1) f fd ps (spP pre) :=
  fnok_of F S (fun vs C Q E h => by
    obtain ⟨M, Pm, _, hp, _⟩ := h
    exact len vs M Pm hp) fun cdv A outer s C E vs Q hr hsp => by
    obtain ⟨M, Pm, eM, hp, q⟩ := hsp
    exact body cdv A outer s C E vs M Pm _ hr eM hp q fun N' C' σ' g p => q .non N' C' g p
theorem cl_of (F : DF K mg x st) (S : C8.scC N ps (defScope st) = true) (len : ∀ vs M Pm, pre vs M Pm → vs.length = ps.length)
    (hb : ∀ (kV doc pm : Value) (an : Option Addr) (cdv ct : Value) (us : List Value), us.length = ps.length → bindArgs (PySem.W.fnOf x x (defArgs st) (defBody st) (defScope st) .none kV doc pm an cdv ct) ⟨us, []⟩ = pure (ps.zip us))
    (body : ∀ (f : Addr) (cdv : Value) (A : Around) (outer : List Env) (s : Shared) (C : Hp) (E : XK) (vs : List V) (M : Hp) (Pm : MP) (D : Ends), Room k (cxN P w K mg base N x st f cdv A outer s C E).A → Ex M C → pre vs M Pm → (∀ v N' C', Gr M C N' C' → Pm.p v N' → D.rt v C') → (∀ N' C' σ', Gr M C N' C' → Pm.p .non N' → D.nx σ' C') →
      tR (cxN P w K mg base N x st f cdv A outer s C E) (defBody st) D (start N vs) C) : Cl P w K mg base (k + 1) x pre := by
  obtain ⟨f, fd, F1, hm⟩ := F
  exact ⟨f, fd, ps, fnok_p F1 S len (body f), hm, F1.kp, F1.binds hb⟩
end
section
variable {X : Cx} {e : Expr} {σ : L2.St} {N H : Hp} {K : PySem.W.Frag} {x v : V}
theorem J.non (h : J X e σ N (mD K .none)) : J X e σ N (mIs .non) := h.imp fun y M g p => dp_non p
theorem J.bl {b : Bool} (h : J X e σ N (mD K (.bool b))) : J X e σ N (mIs (.bl b)) := h.imp fun y M g p => dp_bl p
variable {a b : Expr} {rest : List Expr} {pos : Pos} {l : Bool}
theorem j_orT (ha : J X a σ N (mIs (.bl true))) : J X (.BoolOp .Or (a :: b :: rest) pos) σ N (mIs (.bl true)) := j_or (l := true) ha fun z => nomatch z
theorem j_orF (ha : J X a σ N (mIs (.bl false))) (hb : J X (.BoolOp .Or (b :: rest) pos) σ N (mIs (.bl l))) : J X (.BoolOp .Or (a :: b :: rest) pos) σ N (mIs (.bl l)) := j_or (k := false) ha fun _ => hb
theorem j_andT (ha : J X a σ N (mIs (.bl true))) (hb : J X (.BoolOp .And (b :: rest) pos) σ N (mIs (.bl l))) : J X (.BoolOp .And (a :: b :: rest) pos) σ N (mIs (.bl l)) := j_and (k := true) ha fun _ => hb
theorem j_andF (ha : J X a σ N (mIs (.bl false))) : J X (.BoolOp .And (a :: b :: rest) pos) σ N (mIs (.bl false)) := j_and (k := false) (l := true) ha fun z => nomatch z
theorem jw_orT (ha : JT X a σ N true) : JW X (.BoolOp .Or (a :: b :: rest) pos) σ N true := jw_or (l := true) ha fun z => nomatch z
theorem jw_orF (ha : JT X a σ N false) (hb : JW X (.BoolOp .Or (b :: rest) pos) σ N l) : JW X (.BoolOp .Or (a :: b :: rest) pos) σ N l := jw_or (k := false) ha fun _ => hb
theorem jw_andT (ha : JT X a σ N true) (hb : JW X (.BoolOp .And (b :: rest) pos) σ N l) : JW X (.BoolOp .And (a :: b :: rest) pos) σ N l := jw_and (k := true) ha fun _ => hb
theorem jw_andF (ha : JT X a σ N false) : JW X (.BoolOp .And (a :: b :: rest) pos) σ N false := jw_and (k := false) (l := true) ha fun z => nomatch z
theorem jt_notF (h : JT X a σ N true) : JT X (.UnaryOp .Not a pos) σ N false := jt_not (k := true) h
theorem jt_notT (h : JT X a σ N false) : JT X (.UnaryOp .Not a pos) σ N true := jt_not (k := false) h
theorem rv_isN : RV (fun x y H Q => y = V.non ∧ Q (.bl (decide (x = .non))) H) x .non H (.bl (decide (x = .non))) := rv_val fun _ _ _ q => ⟨rfl, q⟩
theorem rv_notN : RV (fun x y H Q => y = V.non ∧ Q (.bl (!decide (x = .non))) H) x .non H (.bl (!decide (x = .non))) := rv_val fun _ _ _ q => ⟨rfl, q⟩
end
/-! data of the program -/
def hD : Option Int → PyData
  | none => .none
  | some i => .int i
def wD (w : Int × Option Int) : PyData := .tuple [.int w.1, hD w.2]
def hV : Option Int → V
  | none => .non
  | some i => .int i
theorem dp_hD {K : PySem.W.Frag} {H : Hp} {v : V} {h : Option Int} (d : Dp K H v (hD h)) : v = hV h := by
  cases h with
  | none => exact dp_non d
  | some i => exact dp_int d
theorem dp_hV {K : PySem.W.Frag} {H : Hp} (h : Option Int) : Dp K H (hV h) (hD h) := by
  cases h with
  | none => exact .non
  | some i => exact .int i
theorem J.opt {X : Cx} {e : Expr} {σ : L2.St} {N : Hp} {K : PySem.W.Frag} {h : Option Int} (j : J X e σ N (mD K (hD h))) : J X e σ N (mIs (hV h)) := j.imp fun y M g p => dp_hD p

section
variable {P : Program} {w : World} {K : PySem.W.Frag} {mg : PySem.Str → Option Value} {base : Heap}
def preReaches (K : PySem.W.Frag) (vs : List V) (N : Hp) (P : MP) : Prop := ∃ a v q, vs = [a, .int v] ∧ Dp K N a (wD q) ∧ P = mIs (.bl (reachB q.2 v))
theorem ok_reaches (F : DF K mg "reaches" (top 27)) : Cl P w K mg base 1 "reaches" (preReaches K) := by
  refine cl_of (N := ["window", "version"]) (ps := ["window", "version"]) F (by decide +kernel) (fun vs M Pm h => ?_) (fun _ _ _ _ _ _ us hl => match us, hl with | [_, _], _ => rfl) fun f cdv A outer s C E vs M Pm D hr eM h rt nx => ?_
  · obtain ⟨a, v, q, rfl, _⟩ := h; rfl
  obtain ⟨a, v, ⟨l, h⟩, rfl, hd, rfl⟩ := h
  cases h with
  | none => exact r_ret (j_orT (j_cmp op_isN (J.opt (h := none) (j_ixT (j_var 0 hd) j_int rfl)) j_non rv_isN)) eM rt
  | some h => exact r_ret (j_orF (j_cmp op_isN (J.opt (h := some h) (j_ixT (j_var 0 hd) j_int rfl)) j_non rv_isN) <| j_one (j_cmp op_ge (J.opt (h := some h) (j_ixT (j_var 0 hd) j_int rfl)) (jv 1) rv_I0)) eM rt
end
end Gs

set_option Elab.async false
set_option linter.all false
set_option maxRecDepth 100000
set_option maxHeartbeats 4000000
/-! GsB: built-in functions over data. -/
namespace Gs
open PySem PySem.Spec PyProof.Rows L2 Evl

section
variable {K : PySem.W.Frag} {H : Hp} {a : Addr} {xs : List V}
theorem tyx_tup (h : SqT K H a xs) : TyX K H (.ref a) (.type "tuple") := by
  rcases h with (h | ⟨o, h⟩) | ⟨o, its, n, h1, h2, _⟩
  · exact .base (.tup h)
  · exact .fTuple h
  · exact .kTuple h1 h2
theorem tyx_lst (h : SqL K H a xs) : TyX K H (.ref a) (.type "list") := by
  rcases h with (h | ⟨o, h⟩) | ⟨o, its, n, h1, h2, _⟩
  · exact .base (.lst h)
  · exact .base (.frz h)
  · exact .kList h1 h2
theorem tyx_mono {H' : Hp} (e : Ex H H') {v : V} {t : Value} (h : TyX K H v t) : TyX K H' v t := by
  cases h with
  | base h => 
    cases h with
    | non => exact .base .non
    | bl x => exact .base (.bl x)
    | int x => exact .base (.int x)
    | str x => exact .base (.str x)
    | flt x => exact .base (.flt x)
    | lst q => exact .base (.lst (e _ _ q))
    | frz q => exact .base (.frz (e _ _ q))
    | tup q => exact .base (.tup (e _ _ q))
    | dK q => exact .base (.dK (e _ _ q))
    | dT q => exact .base (.dT (e _ _ q))
    | ins q a b c d f => exact .base (.ins (e _ _ q) a b c d f)
  | byt b => exact .byt b
  | set q => exact .set (e _ _ q)
  | kList a b => exact .kList a b
  | kTuple a b => exact .kTuple a b
  | kDict a b => exact .kDict a b
  | fTuple q => exact .fTuple (e _ _ q)
  | fDict q => exact .fDict (e _ _ q)
theorem tyx_dtup {v : V} {ds : List PyData} (h : Dp K H v (.tuple ds)) : TyX K H v (.type "tuple") := by
  obtain ⟨a, xs, rfl, s, _⟩ := dp_tup h
  exact tyx_tup s
theorem tyx_dlst {v : V} {ds : List PyData} (h : Dp K H v (.list ds)) : TyX K H v (.type "list") := by
  obtain ⟨a, xs, rfl, s, _⟩ := dp_lst h
  exact tyx_lst s
end
section
variable {X : Cx} {e : Expr} {es : List Expr} {σ : L2.St} {N C : Hp} {P : MP} {K : PySem.W.Frag} {x : PySem.Str} {v : V} {pos p p2 : Pos}
/-- isinstance(e, T), T a built-in class; ty at the value's type -/
theorem j_isi {tn vt : String} {b : Bool} (he : J X e σ N P) (ty : ∀ v M, Ex N M → P.p v M → TyX X.K M v (.type vt)) (hT : X.mg x = none) (hv : bootBuiltins x = some (.type tn)) (hb : kitB vt tn = some b) (hm : X.mg "isinstance" = none) (hgT : Gl X x := by rfl) (hg : Gl X "isinstance" := by rfl)
    (hn : x ≠ "__name__" := by decide) (hd : (x == ("__debug__" : PySem.Str)) = false := by decide)
    (hs : starEach [e, .Name x p2] X.env = (false, eval e X.env) :: starEach [.Name x p2] X.env := by rfl) (hs2 : starEach [.Name x p2] X.env = (false, eval (.Name x p2) X.env) :: starEach [] X.env := by rfl) (hpl : (backTo pos (starEach [.Name x p2] X.env)).any (·.1) = false := by rfl) :
    J X (.Call (.Name "isinstance" p) [e, .Name x p2] [] pos) σ N (mIs (.bl b)) :=
  j_cb call_isi hm PyProof.Rows.Boot.«isinstance» (ja_cons he (ja_cons (P := mIs (.ty tn)) (j_blt hT hv rfl hgT hn hd) ja_nil hs2) hs) (fun vs M g h => by
    obtain ⟨v, r, rfl, hp, w, r2, rfl, hw, hr⟩ := h
    have hw' : w = V.ty tn := hw
    have hr' : r2 = [] := hr
    subst hw' hr'
    refine rc1_rc (z := V.bl b) (fun H1 e1 Q q => ?_) rfl
    have t1 := ty v M g hp
    exact ⟨v, .ty tn, .type vt, .type tn, b, rfl, .ty tn, tyx_mono e1 t1, kit_ty hb, q H1 (Ex.refl H1)⟩) hg (he := hs) (hpl := hpl)
end
section
variable {X : Cx} {e : Expr} {es : List Expr} {σ : L2.St} {N C : Hp} {P : MP} {K : PySem.W.Frag} {x : PySem.Str} {v : V} {pos p p2 : Pos}
/-- one argument -/
theorem j_cb1 {id : String} {r : List V → Hp → VK → Prop} {P2 : MP} (hc : CallR X (.builtin id) r) (hm : X.mg x = none) (hv : bootBuiltins x = some (.builtin id)) (he : J X e σ N P) (hr : ∀ v M, Ex N M → P.p v M → RC1 r [v] M P2) (hg : Gl X x := by rfl) (hn : x ≠ "__name__" := by decide)
    (hdb : (x == ("__debug__" : PySem.Str)) = false := by decide) (hs : starEach [e] X.env = (false, eval e X.env) :: starEach [] X.env := by rfl) (hpl : (backTo pos (starEach [] X.env)).any (·.1) = false := by rfl) : J X (.Call (.Name x p) [e] [] pos) σ N P2 :=
  j_cb hc hm hv (ja_cons he ja_nil hs) (fun vs M g h => by
    obtain ⟨v, r, rfl, hp, hr'⟩ := h
    have hr2 : r = [] := hr'
    subst hr2
    exact hr v M g hp) hg hn hdb hs hpl
theorem j_cty1 {T : String} {r : List V → Hp → VK → Prop} {P2 : MP} (hc : CallR X (.type T) r) (hm : X.mg x = none) (hv : bootBuiltins x = some (.type T)) (he : J X e σ N P) (hr : ∀ v M, Ex N M → P.p v M → RC1 r [v] M P2) (hg : Gl X x := by rfl) (hn : x ≠ "__name__" := by decide)
    (hdb : (x == ("__debug__" : PySem.Str)) = false := by decide) (hs : starEach [e] X.env = (false, eval e X.env) :: starEach [] X.env := by rfl) (hpl : (backTo pos (starEach [] X.env)).any (·.1) = false := by rfl) : J X (.Call (.Name x p) [e] [] pos) σ N P2 :=
  j_cty hc hm hv (ja_cons he ja_nil hs) (fun vs M g h => by
    obtain ⟨v, r, rfl, hp, hr'⟩ := h
    have hr2 : r = [] := hr'
    subst hr2
    exact hr v M g hp) hg hn hdb hs hpl
theorem rc1_of {r : List V → Hp → VK → Prop} {vs : List V} {M : Hp} {z : V} (h : ∀ H1, Ex M H1 → ∀ Q : VK, Q z H1 → r vs H1 Q) : RC1 r vs M (mIs z) := rc1_rc (fun H1 e Q q => h H1 e Q (q H1 (Ex.refl H1))) rfl
theorem j_lenT {ds : List PyData} (he : J X e σ N (mD X.K (.tuple ds))) (hm : X.mg "len" = none) (hg : Gl X "len" := by rfl) (hs : starEach [e] X.env = (false, eval e X.env) :: starEach [] X.env := by rfl) (hpl : (backTo pos (starEach [] X.env)).any (·.1) = false := by rfl) :
    J X (.Call (.Name "len" p) [e] [] pos) σ N (mIs (.int ds.length)) := j_cb1 call_len hm PyProof.Rows.Boot.«len» he (fun v M g hp => by
  obtain ⟨a, xs, rfl, s, al⟩ := dp_tup hp
  exact rc1_of fun H1 e1 Q q => ⟨_, xs.length, rfl, .inr ⟨xs, ex_t e1 s, rfl⟩, by rw [dps_len al]; exact q⟩) hg (hs := hs) (hpl := hpl)
theorem j_lenL {ds : List PyData} (he : J X e σ N (mD X.K (.list ds))) (hm : X.mg "len" = none) (hg : Gl X "len" := by rfl) (hs : starEach [e] X.env = (false, eval e X.env) :: starEach [] X.env := by rfl) (hpl : (backTo pos (starEach [] X.env)).any (·.1) = false := by rfl) :
    J X (.Call (.Name "len" p) [e] [] pos) σ N (mIs (.int ds.length)) := j_cb1 call_len hm PyProof.Rows.Boot.«len» he (fun v M g hp => by
  obtain ⟨a, xs, rfl, s, al⟩ := dp_lst hp
  exact rc1_of fun H1 e1 Q q => ⟨_, xs.length, rfl, .inl ⟨xs, ex_l e1 s, rfl⟩, by rw [dps_len al]; exact q⟩) hg (hs := hs) (hpl := hpl)
theorem j_lenS {z : PySem.Str} (he : J X e σ N (mIs (.str z))) (hz : z.length ≤ 100000) (hm : X.mg "len" = none) (hg : Gl X "len" := by rfl) (hs : starEach [e] X.env = (false, eval e X.env) :: starEach [] X.env := by rfl) (hpl : (backTo pos (starEach [] X.env)).any (·.1) = false := by rfl) :
    J X (.Call (.Name "len" p) [e] [] pos) σ N (mIs (.int z.length)) := j_cb1 call_len hm PyProof.Rows.Boot.«len» he (fun v M g hp => by
  have hp' : v = V.str z := hp
  subst hp'
  exact rc1_of fun H1 e1 Q q => ⟨_, z.length, rfl, ⟨sz_of hz, rfl⟩, q⟩) hg (hs := hs) (hpl := hpl)
theorem dps_bls {K : PySem.W.Frag} {H : Hp} : ∀ {bs : List Bool} {vs : List V}, DpAll K H vs (bs.map PyData.bool) → vs = bs.map V.bl
  | [], _, .nil => rfl
  | n :: r, _, .cons h a => by
    cases h
    rw [dps_bls a] <;> rfl
theorem j_all {bs : List Bool} {b : Bool} (hc : X.calm = true) (he : J X e σ N (mD X.K (.list (bs.map .bool)))) (hb : bs.all id = b) (hm : X.mg "all" = none) (hg : Gl X "all" := by rfl) (hs : starEach [e] X.env = (false, eval e X.env) :: starEach [] X.env := by rfl) (hpl : (backTo pos (starEach [] X.env)).any (·.1) = false := by rfl) :
    J X (.Call (.Name "all" p) [e] [] pos) σ N (mIs (.bl b)) := j_cb1 (cr_all hc) hm PyProof.Rows.Boot.«all» he (fun v M g hp => by
  obtain ⟨a, xs, rfl, s, al⟩ := dp_lst hp
  have e1 := dps_bls al
  subst e1 hb
  exact rc1_of fun H1 e1 Q q => ⟨a, bs, rfl, ex_l e1 s, q⟩) hg (hs := hs) (hpl := hpl)
theorem j_sum {ns : List Int} (hc : X.calm = true) (he : J X e σ N (mD X.K (.list (ns.map .int)))) (hm : X.mg "sum" = none) (hg : Gl X "sum" := by rfl) (hs : starEach [e] X.env = (false, eval e X.env) :: starEach [] X.env := by rfl) (hpl : (backTo pos (starEach [] X.env)).any (·.1) = false := by rfl) :
    J X (.Call (.Name "sum" p) [e] [] pos) σ N (mIs (.int ns.sum)) := j_cb1 (cr_sum hc) hm PyProof.Rows.Boot.«sum» he (fun v M g hp => by
  obtain ⟨a, xs, rfl, s, al⟩ := dp_lst hp
  have e1 := dps_ints_inv al
  subst e1
  exact rc1_of fun H1 e1 Q q => ⟨a, ns, rfl, ex_l e1 s, q⟩) hg (hs := hs) (hpl := hpl)
end

/-! argument lists taken apart -/
theorem la1 {P : MP} {vs : List V} {M : Hp} (h : (lCons P lNil).p vs M) : ∃ v, vs = [v] ∧ P.p v M := by
  obtain ⟨v, r, rfl, hp, hr⟩ := h
  have hr' : r = [] := hr
  subst hr'
  exact ⟨v, rfl, hp⟩
theorem la2 {P P2 : MP} {vs : List V} {M : Hp} (h : (lCons P (lCons P2 lNil)).p vs M) : ∃ v w, vs = [v, w] ∧ P.p v M ∧ P2.p w M := by
  obtain ⟨v, r, rfl, hp, hr⟩ := h
  obtain ⟨w, rfl, hw⟩ := la1 hr
  exact ⟨v, w, rfl, hp, hw⟩
theorem la3 {P P2 P3 : MP} {vs : List V} {M : Hp} (h : (lCons P (lCons P2 (lCons P3 lNil))).p vs M) : ∃ v w z, vs = [v, w, z] ∧ P.p v M ∧ P2.p w M ∧ P3.p z M := by
  obtain ⟨v, r, rfl, hp, hr⟩ := h
  obtain ⟨w, z, rfl, hw⟩ := la2 hr
  exact ⟨v, w, z, rfl, hp, hw⟩
theorem la4 {P P2 P3 P4 : MP} {vs : List V} {M : Hp} (h : (lCons P (lCons P2 (lCons P3 (lCons P4 lNil)))).p vs M) : ∃ v w z y, vs = [v, w, z, y] ∧ P.p v M ∧ P2.p w M ∧ P3.p z M ∧ P4.p y M := by
  obtain ⟨v, r, rfl, hp, hr⟩ := h
  obtain ⟨w, z, y, rfl, hw⟩ := la3 hr
  exact ⟨v, w, z, y, rfl, hp, hw⟩

/-! ### the windows' defs -/
section
variable {P : Program} {w : World} {K : PySem.W.Frag} {mg : PySem.Str → Option Value} {base : Heap}
def isIntB : PyData → Option Bool
  | .int _ => some true
  | .none => some false
  | _ => none
def preIsInt (vs : List V) (N : Hp) (P : MP) : Prop := ∃ i, vs = [.int i] ∧ P = mIs (.bl true)
theorem ok_is_integer (F : DF K mg "is_integer" (top 21)) (B : Bt mg) : Cl P w K mg base 1 "is_integer" preIsInt := by
  refine cl_of (N := ["value"]) (ps := ["value"]) F (by decide +kernel) (fun vs M Pm h => ?_) (fun _ _ _ _ _ _ us hl => match us, hl with | [_], _ => rfl) fun f cdv A outer s C E vs M Pm D hr eM h rt nx => ?_
  · obtain ⟨i, rfl, _⟩ := h; rfl
  obtain ⟨i, rfl, rfl⟩ := h
  refine r_ret (j_andT (j_isi (b := true) (vt := "int") (jv 0) (fun v M g p => ?_) B.int PyProof.Rows.Boot.«int» (by decide +kernel) B.isi) (j_one (j_notT (k := false) (j_isi (vt := "int") (jv 0) (fun v M g p => ?_) B.bool PyProof.Rows.Boot.«bool» (by decide +kernel) B.isi)))) eM rt
  · have p' : v = V.int i := p
    subst p'; exact .base (.int i)
  · have p' : v = V.int i := p
    subst p'; exact .base (.int i)
def preIsVer (vs : List V) (N : Hp) (P : MP) : Prop := ∃ i, vs = [.int i] ∧ P = mIs (.bl (decide (0 ≤ i)))
theorem ok_is_version (F : DF K mg "is_version" (top 23)) (c1 : Cl P w K mg base 1 "is_integer" preIsInt) : Cl P w K mg base 2 "is_version" preIsVer := by
  refine cl_of (N := ["value"]) (ps := ["value"]) F (by decide +kernel) (fun vs M Pm h => ?_) (fun _ _ _ _ _ _ us hl => match us, hl with | [_], _ => rfl) fun f cdv A outer s C E vs M Pm D hr eM h rt nx => ?_
  · obtain ⟨i, rfl, _⟩ := h; rfl
  obtain ⟨i, rfl, rfl⟩ := h
  refine r_ret (j_andT (j_call c1 hr (ja_cons (jv 0) ja_nil) fun vs M g h => ?_) (j_one (j_cmp op_ge (jv 0) j_int rv_I0))) eM rt
  obtain ⟨v, rfl, rfl⟩ := la1 h
  exact ⟨i, rfl, rfl⟩
end
end Gs

set_option Elab.async false
set_option linter.all false
set_option maxRecDepth 100000
set_option maxHeartbeats 4000000
/-! GsD1: names, windows. -/
namespace Gs
open PySem PySem.Spec PyProof.Rows L2 Evl

section
variable {X : Cx} {e a b : Expr} {σ : L2.St} {N C : Hp} {pos : Pos} {i j : Int}
theorem rv_neI {N : Hp} : RV rNe (.int i) (.int j) N (.bl (i != j)) := by
  have h := rv_ne (H := N) (x := .int i) (y := .int j) rfl
  rw [dec_int] at h
  exact h
theorem rv_eqI {N : Hp} : RV rEq (.int i) (.int j) N (.bl (i == j)) := by
  have h := rv_eq (H := N) (x := .int i) (y := .int j) rfl
  rw [dec_int] at h
  exact h
/-- two names from a pair -/
theorem g2 {K : PySem.W.Frag} {k l : Nat} {v : V} {M C : Hp} {d1 d2 : PyData} {σ : L2.St} {Q : L2.St → Hp → Prop} (h : Dp K M v (.tuple [d1, d2])) (g : Ex M C) (q : ∀ v1 v2, Dp K M v1 d1 → Dp K M v2 d2 → Q ((σ.set k (some v1)).set l (some v2)) C) :
    gTup K 2 (gCons (gName k) (gCons (gName l) gNil)) v σ C Q := by
  obtain ⟨a, xs, rfl, s, al⟩ := dp_tup h
  obtain ⟨v1, r, rfl, h1, hr⟩ := dps_cons_inv al
  obtain ⟨v2, r, rfl, h2, hr⟩ := dps_cons_inv hr
  have := dps_nil_inv hr
  subst this
  exact ⟨a, [v1, v2], rfl, ex_t g s, rfl, v1, [v2], rfl, v2, [], rfl, rfl, q v1 v2 h1 h2⟩
end
section
variable {P : Program} {w : World} {K : PySem.W.Frag} {mg : PySem.Str → Option Value} {base : Heap}
def preWin (K : PySem.W.Frag) (vs : List V) (N : Hp) (P : MP) : Prop := ∃ v q, vs = [v] ∧ Dp K N v (wD q) ∧ WinOk q ∧ P = mIs (.bl true)
theorem ok_is_window (F : DF K mg "is_window" (top 25)) (B : Bt mg) (c1 : Cl P w K mg base 2 "is_version" preIsVer) : Cl P w K mg base 3 "is_window" (preWin K) := by
  refine cl_of (N := ["value", "low", "high"]) (ps := ["value"]) F (by decide +kernel) (fun vs M Pm h => ?_) (fun _ _ _ _ _ _ us hl => match us, hl with | [_], _ => rfl) fun f cdv A outer s C E vs M Pm D hr eM h rt nx => ?_
  · obtain ⟨i, q, rfl, _⟩ := h; rfl
  obtain ⟨v, ⟨l, h⟩, rfl, hd, ⟨hl, hh⟩, rfl⟩ := h
  have hN : (["value", "low", "high"] : List PySem.Str).Nodup := by decide
  refine r_skip (N := M) ?_ eM fun C1 e1 => ?_
  · refine JW.t (jw_orF (jt_notF (jt_val (j_isi (b := true) (vt := "tuple") (P := mD K (wD (l, h))) (j_var 0 hd) (fun v M g p => tyx_dtup p) B.tuple PyProof.Rows.Boot.«tuple» (by decide +kernel) B.isi)))
    (jw_orF (jt_cmp op_ne (j_lenT (ds := [.int l, hD h]) (j_var 0 hd) B.len) j_int rv_neI)
    (jw_or1 (jt_notF (jt_val (j_call c1 hr (ja_cons (J.int (j_ixT (j_var 0 hd) j_int rfl)) ja_nil) fun vs M g p => ?_))))))
    obtain ⟨v, rfl, rfl⟩ := la1 p
    exact ⟨l, rfl, by rw [decide_eq_true hl]⟩
  · have eM1 := eM.trans e1
    refine r_asg (j_var 0 (P := mD K (wD (l, h))) hd) eM1 (pg_tup rfl (pgs_cons (pg_name (i := 1) hN rfl (Or.inl rfl)) (pgs_cons (pg_name (i := 2) hN rfl (Or.inl rfl)) pgs_nil))) fun v' N2 C2 gr hp => g2 hp gr.sub fun v1 v2 h1 h2 => ?_
    obtain rfl := dp_int h1
    obtain rfl := dp_hD h2
    have rt' : ∀ v N' C', Gr N2 C2 N' C' → (mIs (.bl true)).p v N' → D.rt v C' := fun v N' C' g2 hp => rt v N' C' ((Gr.of_ex eM e1).trans (gr.trans g2)) hp
    cases h with
    | none => exact r_ret (j_orT (j_cmp op_isN (jv 2) j_non rv_isN)) gr.sub rt'
    | some x =>
      have hx : l ≤ x := hh x rfl
      refine r_ret (j_orF (j_cmp op_isN (jv 2) j_non rv_isN) (j_one (j_andT (j_call c1 hr (ja_cons (jv 2) ja_nil) fun vs M g p => ?_) (j_one ((j_cmp op_ge (jv 2) (jv 1) rv_I0).is (by show V.bl (decide (l ≤ x)) = _; rw [decide_eq_true hx])))))) gr.sub rt'
      obtain ⟨v, rfl, rfl⟩ := la1 p
      exact ⟨x, rfl, by rw [decide_eq_true (show 0 ≤ x by omega)]⟩
end

section
variable {P : Program} {w : World} {K : PySem.W.Frag} {mg : PySem.Str → Option Value} {base : Heap}
def preReqWin (K : PySem.W.Frag) (vs : List V) (N : Hp) (P : MP) : Prop := ∃ v q, vs = [v] ∧ Dp K N v (wD q) ∧ WinOk q ∧ P = mIs .non
theorem ok_require_window (F : DF K mg "require_window" (top 26)) (c1 : Cl P w K mg base 3 "is_window" (preWin K)) : Cl P w K mg base 4 "require_window" (preReqWin K) := by
  refine cl_of (N := ["value"]) (ps := ["value"]) F (by decide +kernel) (fun vs M Pm h => ?_) (fun _ _ _ _ _ _ us hl => match us, hl with | [_], _ => rfl) fun f cdv A outer s C E vs M Pm D hr eM h rt nx => ?_
  · obtain ⟨i, q, rfl, _⟩ := h; rfl
  obtain ⟨v, q, rfl, hd, hq, rfl⟩ := h
  refine r_skip (N := M) ?_ eM fun C1 e1 => r_nil (nx M C1 _ (Gr.of_ex eM e1) rfl)
  refine jt_notF (jt_val (j_call c1 hr (ja_cons (j_var 0 (P := mD K (wD q)) hd) ja_nil) fun vs M' g p => ?_))
  obtain ⟨v, rfl, hv⟩ := la1 p
  exact ⟨v, q, rfl, hv, hq, rfl⟩
def preRises (K : PySem.W.Frag) (vs : List V) (N : Hp) (P : MP) : Prop := ∃ u v p q, vs = [u, v] ∧ Dp K N u (wD p) ∧ Dp K N v (wD q) ∧ WinOk p ∧ WinOk q ∧ RiseOk p q ∧ P = mIs (.bl true)
theorem ok_rises (F : DF K mg "rises" (top 28)) (c1 : Cl P w K mg base 4 "require_window" (preReqWin K)) (c2 : Cl P w K mg base 1 "reaches" (preReaches K)) : Cl P w K mg base 5 "rises" (preRises K) := by
  refine cl_of (N := ["first", "second"]) (ps := ["first", "second"]) F (by decide +kernel) (fun vs M Pm h => ?_) (fun _ _ _ _ _ _ us hl => match us, hl with | [_, _], _ => rfl) fun f cdv A outer s C E vs M Pm D hr eM h rt nx => ?_
  · obtain ⟨u, v, p, q, rfl, _⟩ := h; rfl
  obtain ⟨u, v, ⟨pl, ph⟩, ⟨ql, qh⟩, rfl, hu, hv, op, oq, ⟨r1, r2⟩, rfl⟩ := h
  refine r_drop (N := M) (P := mIs .non) ?_ eM fun x N1 C1 g1 p1 => ?_
  · refine j_call c1 hr (ja_cons (j_var 0 (P := mD K (wD (pl, ph))) hu) ja_nil) fun vs M' g p => ?_
    obtain ⟨y, rfl, hy⟩ := la1 p
    exact ⟨y, _, rfl, hy, op, rfl⟩
  refine r_drop (N := N1) (P := mIs .non) ?_ g1.sub fun x N2 C2 g2 p2 => ?_
  · refine j_call c1 hr (ja_cons (j_var 1 (P := mD K (wD (ql, qh))) (dp_mono g1.up hv)) ja_nil) fun vs M' g p => ?_
    obtain ⟨y, rfl, hy⟩ := la1 p
    exact ⟨y, _, rfl, hy, oq, rfl⟩
  have u2 := dp_mono (g1.trans g2).up hu
  have v2 := dp_mono (g1.trans g2).up hv
  refine r_skip (N := N2) ?_ g2.sub fun C3 e3 => ?_
  · refine (jt_cmp op_lt (J.int (j_ixT (j_var 1 (P := mD K (wD (ql, qh))) v2) j_int rfl)) (J.int (j_ixT (j_var 0 (P := mD K (wD (pl, ph))) u2) j_int rfl)) rv_I0).is ?_
    exact decide_eq_false (Int.not_lt.mpr r1)
  refine r_ret (N := N2) (P := mIs (.bl true)) ?_ (g2.sub.trans e3) fun v N4 C4 g4 p4 => rt v N4 C4 ((g1.trans (g2.grow e3)).trans g4) p4
  cases ph with
  | none =>
    have r2' : qh = none := r2
    subst r2'
    exact j_ife (k := true) (jt_cmp op_isN (J.opt (h := none) (j_ixT (j_var 0 (P := mD K (wD (pl, none))) u2) j_int rfl)) j_non rv_isN) (fun _ => j_cmp op_isN (J.opt (h := none) (j_ixT (j_var 1 (P := mD K (wD (ql, none))) v2) j_int rfl)) j_non rv_isN) fun z => nomatch z
  | some h =>
    have r2' : reachB qh h = true := r2
    refine j_ife (k := false) (jt_cmp op_isN (J.opt (h := some h) (j_ixT (j_var 0 (P := mD K (wD (pl, some h))) u2) j_int rfl)) j_non rv_isN) (fun z => nomatch z) fun _ => j_call c2 hr (ja_cons (j_var 1 (P := mD K (wD (ql, qh))) v2) (ja_cons (J.opt (h := some h) (j_ixT (j_var 0 (P := mD K (wD (pl, some h))) u2) j_int rfl)) ja_nil)) fun vs M' g p => ?_
    obtain ⟨y, z, rfl, hy, hz⟩ := la2 p
    have hz' : z = V.int h := hz
    subst hz'
    exact ⟨y, h, _, rfl, hy, by rw [r2']⟩
end
end Gs

set_option Elab.async false
set_option linter.all false
set_option maxRecDepth 100000
set_option maxHeartbeats 4000000
/-! GsD2: names. -/
namespace Gs
open PySem PySem.Spec PyProof.Rows L2 Evl

section
variable {X : Cx} {e a b c : Expr} {σ : L2.St} {N C : Hp} {pos : Pos} {i j l : Int} {K : PySem.W.Frag} {P : MP}
theorem jt_chain {op op' : CmpOp} {r r' : R2} {k : Bool} {u v w : V} (ho : OpR X (compareOp op) r) (ho' : OpR X (compareOp op') r') (ha : J X a σ N (mIs u)) (hb : J X b σ N (mIs v)) (hc : J X c σ N (mIs w)) (h1 : RV r u v N (.bl true)) (h2 : RV r' v w N (.bl k))
    (hm : lastMarks [op, op'] [b, c] = false := by with_unfolding_all rfl) : JT X (.Compare a [op, op'] [b, c] pos) σ N k :=
  jt_of (pt_chain ho ho' pE pE pE hm) fun C eC Q q => ha.ev C eC _ fun H1 e1 => hb.ev H1 (eC.trans e1) _ fun H2 e2 => h1 H2 (eC.trans (e1.trans e2)) _ fun H3 e3 => ⟨true, rfl, iteT (hc.ev H3 (eC.trans (e1.trans (e2.trans e3))) _ fun H4 e4 =>
    h2 H4 (eC.trans (e1.trans (e2.trans (e3.trans e4)))) _ fun H5 e5 => ⟨k, rfl, q H5 (e1.trans (e2.trans (e3.trans (e4.trans e5))))⟩)⟩
theorem ji_str {te : TE} {z : PySem.Str} (h : Ev te σ N (.str z)) : JI (iStr te) σ N z.cps.size fun i => ⟨fun v _ => ∃ c, z.cps[i]? = some c ∧ v = .str ⟨#[c]⟩, fun _ h => h⟩ := fun C eC R k =>
  h C eC _ fun H2 e2 => ⟨z, rfl, k _ N H2 (Gr.of_ex eC e2) ⟨fun i H hi _ => (walk_str (z := z)).goes i H hi trivial, fun H _ => (walk_str (z := z)).stops H trivial, fun i H x H' hi eH y => by
    obtain ⟨rfl, c, h1, h2⟩ := (walk_str (z := z)).yields i H x H' hi trivial y
    exact ⟨N, Gr.refl eH, c, h1, h2⟩⟩⟩
end

/-- a look at a comprehension's names -/
def blkB (N : List PySem.Str) (sc scope : Scope) (own : List (PySem.Str × Nat)) : Bool :=
  decide (scope.kind = .function) && (scope.names.all (fun y => decide (scope.names.lookup y.1 = some y.2)) && (own.all (fun p => decide (N[p.2]? = some p.1)) &&
    (scope.names.all (fun y => !decide (y.2 = .free) || (decide (sc.names.lookup y.1 = some .cell) || decide (sc.names.lookup y.1 = some .free))) &&
      scope.names.all (fun y => !(decide (y.2 = .local) || decide (y.2 = .cell)) || ((own.map (·.1)).contains y.1 || !N.contains y.1)))))
theorem blk_by {N : List PySem.Str} {sc scope : Scope} {own : List (PySem.Str × Nat)} (h : blkB N sc scope own = true) : BlkOk N sc scope own := by
  unfold blkB at h
  simp only [Bool.and_eq_true, decide_eq_true_eq, List.all_eq_true, Bool.or_eq_true, Bool.not_eq_true', decide_eq_false_iff_not] at h
  obtain ⟨h1, h2, h3, h4, h5⟩ := h
  refine ⟨h1, fun y hy => h2 y hy, fun p hp => h3 p hp, fun y hy hf => ?_, fun y hy hl => ?_⟩
  · rcases h4 y hy with h | h | h
    · exact absurd hf h
    · exact .inl h
    · exact .inr h
  · rcases h5 y hy with h | h | h
    · rw [Bool.or_eq_false_iff, decide_eq_false_iff_not, decide_eq_false_iff_not] at h
      rcases hl with hl | hl
      · exact absurd hl h.1
      · exact absurd hl h.2
    · exact .inl (List.contains_iff_mem.mp h)
    · refine .inr fun hm => ?_
      rw [List.contains_iff_mem.mpr hm] at h
      cases h
/-- a global text, a global number -/
def GS (mg : PySem.Str → Option Value) (x z : PySem.Str) : Prop := ∃ t, mg x = some (.str z t)
def GI (mg : PySem.Str → Option Value) (x : PySem.Str) (i : Int) : Prop := ∃ t, mg x = some (.int i t)
section
variable {X : Cx} {e : Expr} {σ : L2.St} {N : Hp} {pos : Pos} {x : PySem.Str}
theorem j_gs {z : PySem.Str} (h : GS X.mg x z) (hg : Gl X x := by rfl) (hd : (x == ("__debug__" : PySem.Str)) = false := by decide) : J X (.Name x pos) σ N (mIs (.str z)) := by
  obtain ⟨t, h⟩ := h
  exact j_glo h ⟨t, rfl⟩ hg hd
theorem j_gi {i : Int} (h : GI X.mg x i) (hg : Gl X x := by rfl) (hd : (x == ("__debug__" : PySem.Str)) = false := by decide) : J X (.Name x pos) σ N (mIs (.int i)) := by
  obtain ⟨t, h⟩ := h
  exact j_glo h ⟨t, rfl⟩ hg hd
end
theorem filter_true (n : Nat) : (List.range n).filter (fun _ => true) = List.range n := List.filter_eq_self.mpr fun _ _ => rfl
/-- all([..]) of truths -/
theorem j_allT {X : Cx} {e : Expr} {σ : L2.St} {N : Hp} {pos p : Pos} {idx : List Nat} {E : Nat → PyData → Prop} (hc : X.calm = true) (he : J X e σ N (mNL N X.K (F2 E idx))) (hE : ∀ i d, i ∈ idx → E i d → d = .bool true) (hm : X.mg "all" = none) (hg : Gl X "all" := by rfl)
    (hs : starEach [e] X.env = (false, eval e X.env) :: starEach [] X.env := by rfl) (hpl : (backTo pos (starEach [] X.env)).any (·.1) = false := by rfl) : J X (.Call (.Name "all" p) [e] [] pos) σ N (mIs (.bl true)) :=
  j_all (bs := idx.map fun _ => true) hc (he.imp fun v M g h => mNL_D h fun es hes => by
    rw [F2.map (f := fun _ => PyData.bool true) (hes.mono hE), List.map_map] <;> rfl) (by
    rw [List.all_map]
    exact List.all_eq_true.mpr fun _ _ => rfl) hm hg hs hpl

section
variable {P : Program} {w : World} {K : PySem.W.Frag} {mg : PySem.Str → Option Value} {base : Heap}
def preName (vs : List V) (N : Hp) (P : MP) : Prop := ∃ z, vs = [.str z] ∧ NameOk z ∧ P = mIs (.bl true)
theorem ok_is_name (F : DF K mg "is_name" (top 22)) (B : Bt mg) (G1 : GS mg "LETTERS" letters) (G2 : GI mg "MAX_LETTERS" 8) : Cl P w K mg base 1 "is_name" preName := by
  refine cl_of (N := ["value", "letter"]) (ps := ["value"]) F (by decide +kernel) (fun vs M Pm h => ?_) (fun _ _ _ _ _ _ us hl => match us, hl with | [_], _ => rfl) fun f cdv A outer s C E vs M Pm D hr eM h rt nx => ?_
  · obtain ⟨z, rfl, _⟩ := h; rfl
  obtain ⟨z, rfl, ⟨h1, h2, h3⟩, rfl⟩ := h
  have hN : (["value", "letter"] : List PySem.Str).Nodup := by decide
  refine r_skip (N := M) ?_ eM fun C1 e1 => ?_
  · refine JW.t (jw_orF (jt_notF (jt_val (j_isi (b := true) (vt := "str") (jv 0) (fun v M g p => ?_) B.str PyProof.Rows.Boot.«str» (by decide +kernel) B.isi)))
      (jw_or1 (jt_notF (jt_chain (k := true) op_le op_le j_int (j_lenS (jv 0) (by omega) B.len) (j_gi G2) (?_) (?_)))))
    · have p' : v = V.str z := p
      subst p'; exact .base (.str z)
    · rw [show V.bl true = V.bl (decide ((1 : Int) ≤ (z.length : Int))) by rw [decide_eq_true]; omega]
      exact rv_I0
    · rw [show V.bl true = V.bl (decide ((z.length : Int) ≤ 8)) by rw [decide_eq_true]; omega]
      exact rv_I0
  refine r_ret (N := M) (P := mIs (.bl true)) ?_ (eM.trans e1) fun v N' C' g p => rt v N' C' ((Gr.of_ex eM e1).trans g) p
  refine j_allT (idx := (List.range z.cps.size).filter fun _ => true) (E := fun _ d => d = .bool true) rfl ?_ (fun _ _ _ h => h) B.all
  refine j_lc (own := [("letter", 1)]) (fun _ d => d = .bool true) (fun _ => true) 1 rfl hN (pi_str pE) (ji_str (J.ev (jv 0))) (by have : z.cps.size = z.length := rfl; omega) (blk_by (N := ["value", "letter"]) (sc := defScope (top 22)) (by decide +kernel)) (fun s0 H0 C0 cl fp => pg_name hN rfl (Or.inl rfl)) (fun x => rfl) fun i x M2 hi eM2 hx => ⟨fun s0 H0 C0 cl fp => jts_nil, fun _ s0 H0 C0 cl fp => ?_⟩
  obtain ⟨c, hc, rfl⟩ := hx
  have hm : c ∈ letters.cps.toList := h3 c (by
    obtain ⟨hlt, e⟩ := Array.getElem?_eq_some_iff.mp hc
    rw [← e]
    exact Array.getElem_mem_toList hlt)
  refine (j_cmp (z := .bl true) op_in_sign (jv 1) (j_gs G1) (rv_val fun H1 e1 Q q => ⟨c, letters, rfl, rfl, ?_⟩)).imp fun v M3 g p => ?_
  · rw [decide_eq_true hm]; exact q
  · have p' : v = V.bl true := p
    subst p'
    exact ⟨.bool true, rfl, .bl true⟩
end
end Gs

set_option Elab.async false
set_option linter.all false
set_option maxRecDepth 100000
set_option maxHeartbeats 4000000
/-! GsCat: how a catalog lies in the heap; its reading methods. -/
namespace Gs
open PySem PySem.Spec PyProof.Rows L2 Evl

/-! ### the catalog in the heap -/
structure CatA where
  c : Addr
  dx : Addr
  ut : Addr
  wt : Addr
  ct : Addr
  wd : Addr
  rc : Addr
  l : PySem.Str → PySem.Str → Addr
  d : PySem.Str → Addr
def catF (a : CatA) : List (PySem.Str × V) := [("use_table", .ref a.ut), ("window_table", .ref a.wt), ("count_table", .ref a.ct), ("withdrawn_table", .ref a.wd), ("record", .ref a.rc)]
theorem lk_here {k : PySem.Str} {v : V} {r : List (PySem.Str × V)} : List.lookup k ((k, v) :: r) = some v := by
  have e : (k == k) = true := beq_self_eq_true k
  simp only [List.lookup, e]
theorem lk_past {k g : PySem.Str} {v : V} {r : List (PySem.Str × V)} (h : (k == g) = false) : List.lookup k ((g, v) :: r) = List.lookup k r := by
  simp only [List.lookup, h]
theorem catF_ut (a : CatA) : (catF a).lookup ("use_table" : PySem.Str) = some (V.ref a.ut) := lk_here
theorem catF_wt (a : CatA) : (catF a).lookup ("window_table" : PySem.Str) = some (V.ref a.wt) := (lk_past (by decide +kernel)).trans lk_here
theorem catF_ct (a : CatA) : (catF a).lookup ("count_table" : PySem.Str) = some (V.ref a.ct) := (lk_past (by decide +kernel)).trans ((lk_past (by decide +kernel)).trans lk_here)
theorem catF_wd (a : CatA) : (catF a).lookup ("withdrawn_table" : PySem.Str) = some (V.ref a.wd) := (lk_past (by decide +kernel)).trans ((lk_past (by decide +kernel)).trans ((lk_past (by decide +kernel)).trans lk_here))
theorem catF_rc (a : CatA) : (catF a).lookup ("record" : PySem.Str) = some (V.ref a.rc) := (lk_past (by decide +kernel)).trans ((lk_past (by decide +kernel)).trans ((lk_past (by decide +kernel)).trans ((lk_past (by decide +kernel)).trans lk_here)))
theorem catF_no (a : CatA) {m : PySem.Str} (h : ([("use_table" : PySem.Str), "window_table", "count_table", "withdrawn_table", "record"] : List PySem.Str).all (fun f => !(m == f)) = true) : (catF a).lookup m = none := by
  simp only [List.all_cons, List.all_nil, Bool.and_true, Bool.and_eq_true, Bool.not_eq_true'] at h
  obtain ⟨h1, h2, h3, h4, h5⟩ := h
  exact (lk_past h1).trans ((lk_past h2).trans ((lk_past h3).trans ((lk_past h4).trans ((lk_past h5).trans rfl))))
def strsD (ns : List PySem.Str) : List PyData := ns.map .str
/-- the state W lies in C as the catalog a -/
structure CatAt (K : PySem.W.Frag) (Cc : Addr) (C : Hp) (a : CatA) (W : Wr) : Prop where
  obj : C a.c = some (.ins Cc a.dx (catF a))
  ut : ∃ o kvs, C a.ut = some (.frz o (.dK kvs)) ∧ F2 (fun (u : PySem.Str × List PySem.Str) (kv : Key × V) => kv.1 = .inr u.1 ∧ Dp K C kv.2 (.tuple (strsD u.2))) W.us kvs
  wt : ∃ kvs : List (List Key × V), C a.wt = some (.dT kvs) ∧ ∀ m ns n, (m, ns) ∈ W.us → n ∈ ns → valV kvs [.inr m, .inr n] = some (.ref (a.l m n))
  ls : ∀ m ns n, (m, ns) ∈ W.us → n ∈ ns → ∃ ws, C (a.l m n) = some (.lst ws) ∧ DpAll K C ws ((W.win m n).map wD)
  ct : ∃ kvs : List (Key × V), C a.ct = some (.dK kvs) ∧ kvs.length ≤ 1000 ∧ ∀ m, m ∈ W.mods → valV kvs (.inr m) = some (.int (W.cnt m))
  wd : ∃ kvs : List (Key × V), C a.wd = some (.dK kvs) ∧ ∀ m, m ∈ W.mods → valV kvs (.inr m) = some (.ref (a.d m))
  ds : ∀ m, m ∈ W.mods → ∃ kvs : List (Key × V), C (a.d m) = some (.dK kvs) ∧ kvs.length ≤ (W.wd m).length ∧ ∀ i : Int, (valV kvs (.inl i)).isSome = decide (i ∈ W.wd m)
  rc : ∃ rs, C a.rc = some (.lst rs) ∧ rs.length ≤ 1000
theorem F2.mono2 {α β : Type} {E E' : α → β → Prop} (k : ∀ a b, E a b → E' a b) {as : List α} {bs : List β} (h : F2 E as bs) : F2 E' as bs := h.mono fun a b _ e => k a b e
theorem CatAt.mono {K : PySem.W.Frag} {Cc : Addr} {C C' : Hp} {a : CatA} {W : Wr} (h : CatAt K Cc C a W) (e : Ex C C') : CatAt K Cc C' a W where
  obj := e _ _ h.obj
  ut := by
    obtain ⟨o, kvs, h1, h2⟩ := h.ut
    exact ⟨o, kvs, e _ _ h1, h2.mono2 fun _ _ ⟨x, y⟩ => ⟨x, dp_mono e y⟩⟩
  wt := by
    obtain ⟨kvs, h1, h2⟩ := h.wt
    exact ⟨kvs, e _ _ h1, h2⟩
  ls := fun m ns n h1 h2 => by
    obtain ⟨ws, h3, h4⟩ := h.ls m ns n h1 h2
    exact ⟨ws, e _ _ h3, dps_mono e h4⟩
  ct := by
    obtain ⟨kvs, h1, h2⟩ := h.ct
    exact ⟨kvs, e _ _ h1, h2⟩
  wd := by
    obtain ⟨kvs, h1, h2⟩ := h.wd
    exact ⟨kvs, e _ _ h1, h2⟩
  ds := fun m hm => by
    obtain ⟨kvs, h1, h2⟩ := h.ds m hm
    exact ⟨kvs, e _ _ h1, h2⟩
  rc := by
    obtain ⟨rs, h1, h2⟩ := h.rc
    exact ⟨rs, e _ _ h1, h2⟩
/-- a module's uses in the use table -/
theorem F2.find {K : PySem.W.Frag} {C : Hp} {m : PySem.Str} {ns : List PySem.Str} : ∀ {us : List (PySem.Str × List PySem.Str)} {kvs : List (Key × V)}, F2 (fun (u : PySem.Str × List PySem.Str) (kv : Key × V) => kv.1 = .inr u.1 ∧ Dp K C kv.2 (.tuple (strsD u.2))) us kvs → (us.map (·.1)).Nodup → (m, ns) ∈ us →
    ∃ v, valV kvs (.inr m) = some v ∧ Dp K C v (.tuple (strsD ns))
  | _, _, .nil, _, h => by cases h
  | _, _, @F2.cons _ _ _ u kv us kvs ⟨h1, h2⟩ r, nd, h => by
    rw [List.map_cons, List.nodup_cons] at nd
    rcases List.mem_cons.mp h with e | h
    · subst e
      exact ⟨kv.2, valV_pos h1, h2⟩
    · have hne : ¬ u.1 = m := fun e => nd.1 (by rw [e]; exact List.mem_map.mpr ⟨_, h, rfl⟩)
      obtain ⟨v, e1, e2⟩ := r.find nd.2 h
      exact ⟨v, (valV_neg (by rw [h1]; exact fun z => hne (Sum.inr.inj z))).trans e1, e2⟩
theorem F2.none {K : PySem.W.Frag} {C : Hp} {m : PySem.Str} : ∀ {us : List (PySem.Str × List PySem.Str)} {kvs : List (Key × V)}, F2 (fun (u : PySem.Str × List PySem.Str) (kv : Key × V) => kv.1 = .inr u.1 ∧ Dp K C kv.2 (.tuple (strsD u.2))) us kvs → m ∉ us.map (·.1) → valV kvs (.inr m) = Option.none
  | _, _, .nil, _ => rfl
  | _, _, @F2.cons _ _ _ u kv us kvs ⟨h1, h2⟩ r, h => by
    rw [List.map_cons, List.mem_cons, not_or] at h
    exact (valV_neg (by rw [h1]; exact fun z => h.1 (Sum.inr.inj z).symm)).trans (r.none h.2)
theorem CatAt.uses {K : PySem.W.Frag} {Cc : Addr} {C : Hp} {a : CatA} {W : Wr} (h : CatAt K Cc C a W) (o : WOk W) {m : PySem.Str} {ns : List PySem.Str} (hm : (m, ns) ∈ W.us) : ∃ v, DGet C a.ut (.str m) (some v) ∧ Dp K C v (.tuple (strsD ns)) := by
  obtain ⟨ob, kvs, h1, h2⟩ := h.ut
  obtain ⟨v, e1, e2⟩ := h2.find o.nd hm
  exact ⟨v, .inl ⟨kvs, .inr m, .inr ⟨ob, h1⟩, rfl, e1.symm⟩, e2⟩
/-! class facts -/
structure CatC (K : PySem.W.Frag) (Cc : Addr) : Prop where
  cl : Cls K Cc
  n1 : NoAttr K Cc "use_table"
  n2 : NoAttr K Cc "window_table"
  n3 : NoAttr K Cc "count_table"
  n4 : NoAttr K Cc "withdrawn_table"
  n5 : NoAttr K Cc "record"

section
variable {X : Cx} {e o i : Expr} {es : List Expr} {σ : L2.St} {N C : Hp} {P : MP} {K : PySem.W.Frag} {x f : PySem.Str} {v y z : V} {pos p p2 : Pos} {a : Addr}
theorem j_fld {C0 c dx : Addr} {fs : List (PySem.Str × V)} (he : J X e σ N (mIs (.ref c))) (hc : N c = some (.ins C0 dx fs)) (cl : Cls X.K C0) (na : NoAttr X.K C0 f) (hl : fs.lookup f = some v) (hb : attributeBase e f X.env (eval e X.env) = eval e X.env := by rfl) : J X (.Attribute e f pos) σ N (mIs v) :=
  j_ev (pe_fld pE hb) (ev_fld he.ev hc cl na hl)
theorem j_dget (hu : X.A.units + 1 < cLine) (ho : J X o σ N (mIs (.ref a))) (hi : J X i σ N (mIs y)) (g : DGet N a y (some v)) (hs : NoSl i := by exact fun _ _ => rfl) : J X (.Subscript o i pos) σ N (mIs v) := j_ev (pe_dget hu pE pE hs) (ev_dget ho.ev hi.ev g)
/-- o[(x, y)] -/
theorem j_dget2 {kvs : List (List Key × V)} {e1 e2 : Expr} {k : Nat} {pt : Pos} {k1 k2 : Key} (hu : X.A.units + 1 < cLine) (ho : J X o σ N (mIs (.ref a))) (h1 : J X e1 σ N (mIs (kV k1))) (h2 : J X e2 σ N (mIs (kV k2))) (h : N a = some (.dT kvs)) (g : valV kvs [k1, k2] = some v)
    (hs : NoSl (.Tuple [e1, e2] k pt) := by exact fun _ _ => rfl) (hs1 : starEach [e1, e2] X.env = (false, eval e1 X.env) :: starEach [e2] X.env := by rfl) (hs2 : starEach [e2] X.env = (false, eval e2 X.env) :: starEach [] X.env := by rfl) : J X (.Subscript o (.Tuple [e1, e2] k pt) pos) σ N (mIs v) :=
  j_ev (pe_dget hu pE (pe_tup (pa_cons pE (pa_cons pE pa_nil hs2) hs1)) hs) (ev_dgetU (k := [k1, k2]) ho.ev (eu_tup (ea_cons h1.ev (ea_cons h2.ev ea_nil)) (by show 2 ≤ 100000; decide)) h g)
theorem jt_din {r : Option V} (hu : X.A.units + 1 < cLine) (hi : J X i σ N (mIs y)) (ho : J X o σ N (mIs (.ref a))) (g : DGet N a y r) (h1 : behindInMarks .In o = false := by first | exact nobehind _ (by decide) (by decide) | rfl) : JT X (.Compare i [.In] [o] pos) σ N r.isSome :=
  jt_of (pt_cmp (pc_din hu pE pE) h1) (et_din hi.ev ho.ev g)
theorem jt_dnin {r : Option V} (hu : X.A.units + 1 < cLine) (hi : J X i σ N (mIs y)) (ho : J X o σ N (mIs (.ref a))) (g : DGet N a y r) (h1 : behindInMarks .NotIn o = false := by first | exact nobehind _ (by decide) (by decide) | rfl) : JT X (.Compare i [.NotIn] [o] pos) σ N (!r.isSome) :=
  jt_of (pt_cmp (pc_dnotin hu pE pE) h1) (et_dnin hi.ev ho.ev g)
theorem j_dnin {r : Option V} (hu : X.A.units + 1 < cLine) (hi : J X i σ N (mIs y)) (ho : J X o σ N (mIs (.ref a))) (g : DGet N a y r) (h1 : behindInMarks .NotIn o = false := by first | exact nobehind _ (by decide) (by decide) | rfl) : J X (.Compare i [.NotIn] [o] pos) σ N (mIs (.bl (!r.isSome))) :=
  j_ev (pe_cmp (pc_dnotin hu pE pE) h1) (ev_dnin hi.ev ho.ev g)
end

section
variable {P : Program} {w : World} {K : PySem.W.Frag} {mg : PySem.Str → Option Value} {base : Heap} {Cc : Addr}
def preReqMod (K : PySem.W.Frag) (Cc : Addr) (vs : List V) (N : Hp) (P : MP) : Prop := ∃ a W m, vs = [.ref a.c, .str m] ∧ CatAt K Cc N a W ∧ WOk W ∧ m ∈ W.mods ∧ P = mIs .non
theorem ok_require_module (F : DF K mg "require_module" (top 45)) (B : Bt mg) (T : CatC K Cc) : Cl P w K mg base 1 "require_module" (preReqMod K Cc) := by
  refine cl_of (N := ["catalog", "value"]) (ps := ["catalog", "value"]) F (by decide +kernel) (fun vs M Pm h => ?_) (fun _ _ _ _ _ _ us hl => match us, hl with | [_, _], _ => rfl) fun f cdv A outer s C E vs M Pm D hr eM h rt nx => ?_
  · obtain ⟨a, W, m, rfl, _⟩ := h; rfl
  obtain ⟨a, W, m, rfl, ca, wo, hm, rfl⟩ := h
  obtain ⟨ns, hns⟩ := mem_us hm
  obtain ⟨v, g, _⟩ := ca.uses wo hns
  refine r_skip (N := M) ?_ eM fun C1 e1 => r_nil (nx M C1 _ (Gr.of_ex eM e1) rfl)
  refine JW.t (jw_orF (jt_notF (jt_val (j_isi (b := true) (vt := "str") (jv 1) (fun v M g p => ?_) B.str PyProof.Rows.Boot.«str» (by decide +kernel) B.isi))) (jw_or1 (jt_dnin (hu_of hr) (jv 1) (j_fld (jv 0) ca.obj T.cl T.n1 (catF_ut a)) g)))
  have p' : v = V.str m := p
  subst p'; exact .base (.str m)
end
end Gs

set_option Elab.async false
set_option linter.all false
set_option maxRecDepth 100000
set_option maxHeartbeats 4000000
/-! GsCat2: the reading methods of a catalog. -/
namespace Gs
open PySem PySem.Spec PyProof.Rows L2 Evl

def MF (K : PySem.W.Frag) (Cc : Addr) (m qual : PySem.Str) (st : Stmt) : Prop := ∃ (f : Addr) (fd : FuncData), L2.Fun K m qual st f fd ∧ Meth K Cc m f
section
variable {P : Program} {w : World} {K : PySem.W.Frag} {mg : PySem.Str → Option Value} {base : Heap} {x qual : PySem.Str} {st : Stmt} {N ps : List PySem.Str} {k : Nat} {pre : List V → Hp → MP → Prop} {Cc : Addr}
theorem mt_of (F : MF K Cc x qual st) (S : C8.scC N ps (defScope st) = true) (len : ∀ vs M Pm, pre vs M Pm → vs.length = ps.length)
    (hb : ∀ (kV doc pm : Value) (an : Option Addr) (cdv ct : Value) (us : List Value), us.length = ps.length → bindArgs (PySem.W.fnOf x qual (defArgs st) (defBody st) (defScope st) .none kV doc pm an cdv ct) ⟨us, []⟩ = pure (ps.zip us))
    (body : ∀ (f : Addr) (cdv : Value) (A : Around) (outer : List Env) (s : Shared) (C : Hp) (E : XK) (vs : List V) (M : Hp) (Pm : MP) (D : Ends), Room k (cxN P w K mg base N qual st f cdv A outer s C E).A → Ex M C → pre vs M Pm → (∀ v N' C', Gr M C N' C' → Pm.p v N' → D.rt v C') → (∀ N' C' σ', Gr M C N' C' → Pm.p .non N' → D.nx σ' C') →
      tR (cxN P w K mg base N qual st f cdv A outer s C E) (defBody st) D (start N vs) C) : Mt P w K mg base (k + 1) Cc x pre := by
  obtain ⟨f, fd, F1, hm⟩ := F
  exact ⟨f, fd, ps, fnok_p F1 S len (body f), hm, F1.binds hb⟩
end

section
variable {X : Cx} {e : Expr} {es : List Expr} {σ : L2.St} {N C : Hp} {P : MP} {K : PySem.W.Frag} {x : PySem.Str} {v : V} {pos p p2 : Pos}
/-- list(..) of a list or tuple that is data; of a frozen dict with such keys -/
theorem j_listD {ds : List PyData} (he : J X e σ N P) (hd : ∀ v M, Ex N M → P.p v M → ∃ a xs, v = .ref a ∧ (SqL X.K M a xs ∨ SqT X.K M a xs) ∧ DpAll X.K M xs ds) (hm : X.mg "list" = none) (hg : Gl X "list" := by rfl)
    (hs : starEach [e] X.env = (false, eval e X.env) :: starEach [] X.env := by rfl) (hpl : (backTo pos (starEach [] X.env)).any (·.1) = false := by rfl) : J X (.Call (.Name "list" p) [e] [] pos) σ N (mNL N X.K (· = ds)) :=
  j_cty1 call_list_of hm PyProof.Rows.Boot.«list» he (fun v M g hp => fun C eC Q q => by
    obtain ⟨a, xs, rfl, s, al⟩ := hd v M g hp
    refine ⟨a, xs, rfl, ?_, fun l hl => ?_⟩
    · rcases s with s | s
      · exact .inl (ex_l eC s)
      · exact .inr (ex_t eC s)
    · have hn : M l = none := fresh_back eC hl
      exact q (.ref l) (upd M l (.lst xs)) _ ((Gr.refl eC).new hl) ⟨l, xs, ds, rfl, fresh_back g hn, upd_same, dps_mono (Ex.new hn) al, rfl⟩) hg (hs := hs) (hpl := hpl)
theorem j_listK {kvs : List (Key × V)} {ds : List PyData} {a : Addr} (hc : X.calm = true) (he : J X e σ N (mIs (.ref a))) (hd : Rd N a (.dK kvs)) (hk : DpAll X.K N (kvs.map fun kv => kV kv.1) ds) (hm : X.mg "list" = none) (hg : Gl X "list" := by rfl)
    (hs : starEach [e] X.env = (false, eval e X.env) :: starEach [] X.env := by rfl) (hpl : (backTo pos (starEach [] X.env)).any (·.1) = false := by rfl) : J X (.Call (.Name "list" p) [e] [] pos) σ N (mNL N X.K (· = ds)) :=
  j_cty1 (call_listD hc) hm PyProof.Rows.Boot.«list» he (fun v M g hp => fun C eC Q q => by
    have hp' : v = V.ref a := hp
    subst hp'
    refine ⟨a, kvs, rfl, ex_rd (g.trans eC) hd, fun l hl => ?_⟩
    have hn : M l = none := fresh_back eC hl
    exact q (.ref l) (upd M l (.lst _)) _ ((Gr.refl eC).new hl) ⟨l, _, ds, rfl, fresh_back g hn, upd_same, dps_mono (Ex.new hn) (dps_mono g hk), rfl⟩) hg (hs := hs) (hpl := hpl)
/-- the items of a frozen dict -/
theorem ji_items {td : TE} {kvs : List (Key × V)} {a : Addr} {o : Obj} (h : Ev td σ N (.ref a)) (hd : N a = some (.frz o (.dK kvs))) : JI (iItems td) σ N kvs.length fun i => ⟨fun x H => ∃ T k v, kvs[i]? = some (k, v) ∧ x = .ref T ∧ H T = some (.tup [kV k, v]), fun e ⟨T, k, v, h1, h2, h3⟩ => ⟨T, k, v, h1, h2, e _ _ h3⟩⟩ := fun C eC R k =>
  h C eC _ fun H2 e2 => ⟨a, o, kvs, rfl, (eC.trans e2) _ _ hd, k _ N H2 (Gr.of_ex eC e2) ⟨fun i H hi eH => (walk_items (kvs := kvs)).goes i H hi (eH _ _ hd), fun H eH => (walk_items (kvs := kvs)).stops H (eH _ _ hd), fun i H x H' hi eH y => by
    obtain ⟨T, x1, y1, rfl, hT, rfl, h1, h2⟩ := (walk_items (kvs := kvs)).yields i H x H' hi (eH _ _ hd) y
    obtain ⟨⟨k, v⟩, hk⟩ : ∃ kv, kvs[i]? = some kv := ⟨_, List.getElem?_eq_getElem hi⟩
    dsimp only at h1 h2
    rw [hk] at h1 h2
    cases h1
    cases h2
    exact ⟨upd N T (.tup [kV k, v]), (Gr.refl eH).new hT, T, k, v, hk, rfl, upd_same⟩⟩⟩
theorem ji_values {td : TE} {kvs : List (Key × V)} {a : Addr} {o : Obj} (h : Ev td σ N (.ref a)) (hd : N a = some (.frz o (.dK kvs))) : JI (iVals td) σ N kvs.length fun i => ⟨fun x H => ∃ k, kvs[i]? = some (k, x), fun e h => h⟩ := fun C eC R k =>
  h C eC _ fun H2 e2 => ⟨a, o, kvs, rfl, (eC.trans e2) _ _ hd, k _ N H2 (Gr.of_ex eC e2) ⟨fun i H hi eH => (walk_values (kvs := kvs)).goes i H hi (eH _ _ hd), fun H eH => (walk_values (kvs := kvs)).stops H (eH _ _ hd), fun i H x H' hi eH y => by
    obtain ⟨rfl, k, h1⟩ := (walk_values (kvs := kvs)).yields i H x H' hi (eH _ _ hd) y
    exact ⟨N, Gr.refl eH, k, h1⟩⟩⟩
theorem ji_keys {td : TE} {kvs : List (Key × V)} {a : Addr} {o : Obj} (h : Ev td σ N (.ref a)) (hd : N a = some (.frz o (.dK kvs))) : JI (iKeys td) σ N kvs.length fun i => ⟨fun x H => ∃ k v, kvs[i]? = some (k, v) ∧ x = kV k, fun e h => h⟩ := fun C eC R k =>
  h C eC _ fun H2 e2 => ⟨a, o, rfl, .inl ⟨kvs, (eC.trans e2) _ _ hd, k _ N H2 (Gr.of_ex eC e2) ⟨fun i H hi eH => (walk_keys (kvs := kvs)).goes i H hi (eH _ _ hd), fun H eH => (walk_keys (kvs := kvs)).stops H (eH _ _ hd), fun i H x H' hi eH y => by
    obtain ⟨rfl, k, v, h1, h2⟩ := (walk_keys (kvs := kvs)).yields i H x H' hi (eH _ _ hd) y
    exact ⟨N, Gr.refl eH, k, v, h1, h2⟩⟩⟩⟩
end
/-- targets of two names: any pair -/
theorem gp2 {K : PySem.W.Frag} {j k : Nat} {a : Addr} {v1 v2 : V} {σ : L2.St} {C : Hp} {Q : L2.St → Hp → Prop} (h : SqT K C a [v1, v2]) (q : Q ((σ.set j (some v1)).set k (some v2)) C) : gTup K 2 (gCons (gName j) (gCons (gName k) gNil)) (.ref a) σ C Q :=
  ⟨a, [v1, v2], rfl, h, rfl, v1, [v2], rfl, v2, [], rfl, rfl, q⟩
theorem gm_tup2 {K : PySem.W.Frag} {j k : Nat} : ∀ x s C (Q Q' : L2.St → Hp → Prop), (∀ a b, Q a b → Q' a b) → gTup K 2 (gCons (gName j) (gCons (gName k) gNil)) x s C Q → gTup K 2 (gCons (gName j) (gCons (gName k) gNil)) x s C Q' := fun _ _ _ _ _ kk ⟨a, xs, h1, h2, h3, v, r, h4, v2, r2, h5, h6, q⟩ => ⟨a, xs, h1, h2, h3, v, r, h4, v2, r2, h5, h6, kk _ _ q⟩
section
variable {X : Cx} {elt iter t1 t2 : Expr} {ifs : List Expr} {scope : Scope} {own : List (PySem.Str × Nat)} {pos pt : Pos} {kk : Nat} {wi : TI} {σ : L2.St} {N C : Hp} {n : Nat} {I : Nat → MP} {K : PySem.W.Frag}
/-- [elt for a, b in ..] -/
theorem j_lc2n (E : Nat → PyData → Prop) (bs : Nat → Bool) (j k : Nat) (hc : X.calm = true) (hN : X.N.Nodup) (hi : PI X (.Tuple [t1, t2] kk pt) iter wi) (hw : JI wi σ N n I) (hn : n ≤ 100000) (ok : BlkOk X.N X.env.scope scope own) (hg : BlkIs X scope fun Y => PG Y (.Tuple [t1, t2] kk pt) (gTup X.K 2 (gCons (gName j) (gCons (gName k) gNil))))
    (hwp : ∀ x y, wipe (((wipe σ (own.map (·.2))).set j x).set k y) (own.map (·.2)) = wipe σ (own.map (·.2)))
    (hI : ∀ i x M, i < n → Ex N M → (I i).p x M → ∃ a v1 v2, x = .ref a ∧ SqT X.K M a [v1, v2] ∧ BlkIs X scope (fun Y => JTs Y ifs (((wipe σ (own.map (·.2))).set j (some v1)).set k (some v2)) M (bs i)) ∧ (bs i = true → BlkIs X scope fun Y => J Y elt (((wipe σ (own.map (·.2))).set j (some v1)).set k (some v2)) M (mR K (E i))))
    (hs : ∀ x, foldedSetIterable iter X.env x = pure x := by intro _; rfl) : J X (.ListComp elt [⟨.Tuple [t1, t2] kk pt, iter, ifs, 0⟩] scope pos) σ N (mNL N K (F2 E ((List.range n).filter bs))) :=
  j_of (pe_lc hc hN hi ok hg pTsb pEb hs) (ep_lc E bs hw hn (fun i x M hi' eM hp C eC => by
    obtain ⟨a, v1, v2, rfl, s, h1, h2⟩ := hI i x M hi' eM hp
    exact gp2 (ex_t eC s) ⟨hwp _ _, M, Gr.refl eC, evt h1, fun hb => evb (h2 hb)⟩) gm_tup2)
end

section
variable {P : Program} {w : World} {K : PySem.W.Frag} {mg : PySem.Str → Option Value} {base : Heap} {Cc : Addr}
def mle (P Q : MP) : Prop := ∀ v H, P.p v H → Q.p v H
/-- the promises: the catalog, the module's name -/
def preMods (K : PySem.W.Frag) (Cc : Addr) (vs : List V) (N : Hp) (P : MP) : Prop := ∃ a W, vs = [.ref a.c] ∧ CatAt K Cc N a W ∧ WOk W ∧ mle (mNL N K (· = strsD W.mods)) P
theorem F2.keys {K : PySem.W.Frag} {C : Hp} : ∀ {us : List (PySem.Str × List PySem.Str)} {kvs : List (Key × V)}, F2 (fun (u : PySem.Str × List PySem.Str) (kv : Key × V) => kv.1 = .inr u.1 ∧ Dp K C kv.2 (.tuple (strsD u.2))) us kvs → DpAll K C (kvs.map fun kv => kV kv.1) (strsD (us.map (·.1)))
  | _, _, .nil => .nil
  | _, _, @F2.cons _ _ _ u kv us kvs ⟨h1, _⟩ r => by
    show DpAll K C (kV kv.1 :: _) (PyData.str u.1 :: _)
    rw [h1]
    exact .cons (.str _) r.keys
theorem ok_modules (F : MF K Cc "modules" "Catalog.modules" (inClass (top 44) 1)) (B : Bt mg) (T : CatC K Cc) : Mt P w K mg base 1 Cc "modules" (preMods K Cc) := by
  refine mt_of (N := ["self"]) (ps := ["self"]) F (by decide +kernel) (fun vs M Pm h => ?_) (fun _ _ _ _ _ _ us hl => match us, hl with | [_], _ => rfl) fun f cdv A outer s C E vs M Pm D hr eM h rt nx => ?_
  · obtain ⟨a, W, rfl, _⟩ := h; rfl
  obtain ⟨a, W, rfl, ca, wo, hP⟩ := h
  obtain ⟨o, kvs, h1, h2⟩ := ca.ut
  exact r_ret (j_listK rfl (j_fld (jv 0) ca.obj T.cl T.n1 (catF_ut a)) (.inr ⟨o, h1⟩) h2.keys B.list) eM fun v N' C' g p => rt v N' C' g (hP _ _ p)
def preUses (K : PySem.W.Frag) (Cc : Addr) (vs : List V) (N : Hp) (P : MP) : Prop := ∃ a W m, vs = [.ref a.c, .str m] ∧ CatAt K Cc N a W ∧ WOk W ∧ m ∈ W.mods ∧ mle (mNL N K (· = strsD (W.usesOf m))) P
theorem ok_uses (F : MF K Cc "uses" "Catalog.uses" (inClass (top 44) 2)) (B : Bt mg) (T : CatC K Cc) (c1 : Cl P w K mg base 1 "require_module" (preReqMod K Cc)) : Mt P w K mg base 2 Cc "uses" (preUses K Cc) := by
  refine mt_of (N := ["self", "module"]) (ps := ["self", "module"]) F (by decide +kernel) (fun vs M Pm h => ?_) (fun _ _ _ _ _ _ us hl => match us, hl with | [_, _], _ => rfl) fun f cdv A outer s C E vs M Pm D hr eM h rt nx => ?_
  · obtain ⟨a, W, m, rfl, _⟩ := h; rfl
  obtain ⟨a, W, m, rfl, ca, wo, hm, hP⟩ := h
  obtain ⟨ns, hns⟩ := mem_us hm
  refine r_drop (N := M) (P := mIs .non) ?_ eM fun x N1 C1 g1 p1 => ?_
  · refine j_call c1 hr (ja_cons (jv 0) (ja_cons (jv 1) ja_nil)) fun vs M' g p => ?_
    obtain ⟨x, y, rfl, rfl, rfl⟩ := la2 p
    exact ⟨a, W, m, rfl, ca.mono g, wo, hm, rfl⟩
  have ca1 := ca.mono g1.up
  obtain ⟨v, gd, hd⟩ := ca1.uses wo hns
  rw [wo.usesOf hns] at hP
  refine r_ret (N := N1) ((j_listD (ds := strsD ns) (j_dget (hu_of hr) (j_fld (jv 0) ca1.obj T.cl T.n1 (catF_ut a)) (jv 1) gd) (fun y M' g p => ?_) B.list)) g1.sub fun v N' C' g p => rt v N' C' (g1.trans g) (hP _ _ ?_)
  · have p' : y = v := p
    subst p'
    obtain ⟨b, xs, rfl, s, al⟩ := dp_tup hd
    exact ⟨b, xs, rfl, .inr (ex_t g s), dps_mono g al⟩
  · obtain ⟨l, xs, ds, h1, h2, h3⟩ := p
    exact ⟨l, xs, ds, h1, fresh_back g1.up h2, h3⟩
def preVers (K : PySem.W.Frag) (Cc : Addr) (vs : List V) (N : Hp) (P : MP) : Prop := ∃ a W m, vs = [.ref a.c, .str m] ∧ CatAt K Cc N a W ∧ WOk W ∧ m ∈ W.mods ∧ P = mIs (.int (W.cnt m))
theorem CatAt.cnt {C : Hp} {a : CatA} {W : Wr} (h : CatAt K Cc C a W) {m : PySem.Str} (hm : m ∈ W.mods) : DGet C a.ct (.str m) (some (.int (W.cnt m))) := by
  obtain ⟨kvs, h1, _, h2⟩ := h.ct
  exact .inl ⟨kvs, .inr m, .inl h1, rfl, (h2 m hm).symm⟩
theorem ok_versions (F : MF K Cc "versions" "Catalog.versions" (inClass (top 44) 4)) (T : CatC K Cc) (c1 : Cl P w K mg base 1 "require_module" (preReqMod K Cc)) : Mt P w K mg base 2 Cc "versions" (preVers K Cc) := by
  refine mt_of (N := ["self", "module"]) (ps := ["self", "module"]) F (by decide +kernel) (fun vs M Pm h => ?_) (fun _ _ _ _ _ _ us hl => match us, hl with | [_, _], _ => rfl) fun f cdv A outer s C E vs M Pm D hr eM h rt nx => ?_
  · obtain ⟨a, W, m, rfl, _⟩ := h; rfl
  obtain ⟨a, W, m, rfl, ca, wo, hm, rfl⟩ := h
  refine r_drop (N := M) (P := mIs .non) ?_ eM fun x N1 C1 g1 p1 => ?_
  · refine j_call c1 hr (ja_cons (jv 0) (ja_cons (jv 1) ja_nil)) fun vs M' g p => ?_
    obtain ⟨x, y, rfl, rfl, rfl⟩ := la2 p
    exact ⟨a, W, m, rfl, ca.mono g, wo, hm, rfl⟩
  have ca1 := ca.mono g1.up
  exact r_ret (N := N1) (j_dget (hu_of hr) (j_fld (jv 0) ca1.obj T.cl T.n3 (catF_ct a)) (jv 1) (ca1.cnt hm)) g1.sub fun v N' C' g p => rt v N' C' (g1.trans g) p
end

section
variable {P : Program} {w : World} {K : PySem.W.Frag} {mg : PySem.Str → Option Value} {base : Heap} {Cc : Addr}
theorem dps_all2 {K : PySem.W.Frag} {C : Hp} {us : List (PySem.Str × List PySem.Str)} : ∀ {kvs : List (Key × V)}, F2 (fun (u : PySem.Str × List PySem.Str) (kv : Key × V) => kv.1 = .inr u.1 ∧ Dp K C kv.2 (.tuple (strsD u.2))) us kvs → kvs.length = us.length ∧ ∀ (i : Nat) k v, kvs[i]? = some (k, v) → ∃ u, us[i]? = some u ∧ k = .inr u.1 ∧ Dp K C v (.tuple (strsD u.2)) := by
  intro kvs h
  induction h with
  | nil => exact ⟨rfl, fun i k v e => by simp at e⟩
  | @cons u kv us kvs h r ih =>
    refine ⟨by rw [List.length_cons, List.length_cons, ih.1], fun i k v e => ?_⟩
    cases i with
    | zero => simp at e; subst e; exact ⟨u, rfl, h.1, h.2⟩
    | succ i => simpa using ih.2 i k v (by simpa using e)
theorem inV_strs (m : PySem.Str) (ns : List PySem.Str) : inV (.str m) (ns.map V.str) = decide (m ∈ ns) := by
  unfold inV
  rw [List.any_map]
  induction ns with
  | nil => rfl
  | cons n r ih =>
    rw [List.any_cons, ih]
    show (decide (n = m) || decide (m ∈ r)) = decide (m ∈ n :: r)
    by_cases h : n = m
    · subst h; simp
    · have h' : m ≠ n := fun z => h z.symm
      simp [h, h']
theorem flat_strs (ns : List PySem.Str) : (ns.map V.str).all flatV = true := by
  rw [List.all_map]
  exact List.all_eq_true.mpr fun _ _ => rfl
section
variable {X : Cx} {e a : Expr} {σ : L2.St} {N : Hp} {P : MP} {pos : Pos} {m : PySem.Str} {ns : List PySem.Str}
/-- x in names -/
theorem jt_inN (ha : J X a σ N (mIs (.str m))) (he : J X e σ N P) (hd : ∀ v M, Ex N M → P.p v M → Dp X.K M v (.tuple (strsD ns)) ∨ Dp X.K M v (.list (strsD ns))) (hm : behindInMarks .In e = false := by first | exact nomark _ | with_unfolding_all rfl) : JT X (.Compare a [.In] [e] pos) σ N (decide (m ∈ ns)) :=
  jt_cmpP op_in_seq ha he (fun x y M g hx hy => by
    have hx' : x = V.str m := hx
    subst hx'
    rw [← inV_strs]
    rcases hd y M g hy with h | h
    · obtain ⟨b, xs, rfl, s, al⟩ := dp_tup h
      have := dps_strs_inv al
      subst this
      exact rp_rv (rv_isT s rfl (flat_strs ns)) rfl
    · obtain ⟨b, xs, rfl, s, al⟩ := dp_lst h
      have := dps_strs_inv al
      subst this
      exact rp_rv (rv_isL s rfl (flat_strs ns)) rfl) hm
theorem jt_niN (ha : J X a σ N (mIs (.str m))) (he : J X e σ N P) (hd : ∀ v M, Ex N M → P.p v M → Dp X.K M v (.tuple (strsD ns)) ∨ Dp X.K M v (.list (strsD ns))) (hm : behindInMarks .NotIn e = false := by first | exact nomark _ | with_unfolding_all rfl) : JT X (.Compare a [.NotIn] [e] pos) σ N (!decide (m ∈ ns)) :=
  jt_cmpP op_notIn_seq ha he (fun x y M g hx hy => by
    have hx' : x = V.str m := hx
    subst hx'
    rw [← inV_strs]
    rcases hd y M g hy with h | h
    · obtain ⟨b, xs, rfl, s, al⟩ := dp_tup h
      have := dps_strs_inv al
      subst this
      exact rp_rv (rv_niT s rfl (flat_strs ns)) rfl
    · obtain ⟨b, xs, rfl, s, al⟩ := dp_lst h
      have := dps_strs_inv al
      subst this
      exact rp_rv (rv_niL s rfl (flat_strs ns)) rfl) hm
end
/-- filter, then map: by places -/
theorem filter_places {α β : Type} (p : α → Bool) (f : α → β) : ∀ (l : List α) (d : α), ((List.range l.length).filter fun i => p (l.getD i d)).map (fun i => f (l.getD i d)) = (l.filter p).map f := by
  intro l d
  have key : ∀ n, n ≤ l.length → ((List.range n).filter fun i => p (l.getD i d)).map (fun i => f (l.getD i d)) = ((l.take n).filter p).map f := by
    intro n
    induction n with
    | zero => intro _; simp
    | succ n ih =>
      intro h
      have hn : n < l.length := h
      rw [range_filter, List.take_succ, List.filter_append, List.map_append, ← ih (Nat.le_of_lt hn), List.getElem?_eq_getElem hn]
      have e : l.getD n d = l[n] := by rw [List.getD_eq_getElem?_getD, List.getElem?_eq_getElem hn] <;> rfl
      rw [e]
      by_cases hp : p l[n] = true
      · rw [if_pos hp, List.map_append, List.map_singleton, e]
        simp [hp]
      · rw [if_neg hp]
        simp [hp]
  have := key l.length (Nat.le_refl _)
  rwa [List.take_length] at this
def preUsers (K : PySem.W.Frag) (Cc : Addr) (vs : List V) (N : Hp) (P : MP) : Prop := ∃ a W m, vs = [.ref a.c, .str m] ∧ CatAt K Cc N a W ∧ WOk W ∧ m ∈ W.mods ∧ mle (mNL N K (· = strsD (W.users m))) P
theorem mNL_up {N M H : Hp} {K : PySem.W.Frag} {R R' : List PyData → Prop} {v : V} (e : Ex N M) (h : (mNL M K R).p v H) (k : ∀ ds, R ds → R' ds) : (mNL N K R').p v H := by
  obtain ⟨l, xs, ds, h1, h2, h3, h4, h5⟩ := h
  exact ⟨l, xs, ds, h1, fresh_back e h2, h3, h4, k ds h5⟩
theorem ok_users (F : MF K Cc "users" "Catalog.users" (inClass (top 44) 3)) (B : Bt mg) (T : CatC K Cc) (c1 : Cl P w K mg base 1 "require_module" (preReqMod K Cc)) : Mt P w K mg base 2 Cc "users" (preUsers K Cc) := by
  refine mt_of (N := ["self", "module", "user", "names"]) (ps := ["self", "module"]) F (by decide +kernel) (fun vs M Pm h => ?_) (fun _ _ _ _ _ _ us hl => match us, hl with | [_, _], _ => rfl) fun f cdv A outer s C E vs M Pm D hr eM h rt nx => ?_
  · obtain ⟨a, W, m, rfl, _⟩ := h; rfl
  obtain ⟨a, W, m, rfl, ca, wo, hm, hP⟩ := h
  have hN : (["self", "module", "user", "names"] : List PySem.Str).Nodup := by decide
  refine r_drop (N := M) (P := mIs .non) ?_ eM fun x N1 C1 g1 p1 => ?_
  · refine j_call c1 hr (ja_cons (jv 0) (ja_cons (jv 1) ja_nil)) fun vs M' g p => ?_
    obtain ⟨x, y, rfl, rfl, rfl⟩ := la2 p
    exact ⟨a, W, m, rfl, ca.mono g, wo, hm, rfl⟩
  have ca1 := ca.mono g1.up
  obtain ⟨o, kvs, h1, h2⟩ := ca1.ut
  obtain ⟨hl, hk⟩ := dps_all2 h2
  have hfew := wo.few
  let bs : Nat → Bool := fun i => decide (m ∈ (W.us.getD i (⟨#[]⟩, [])).2)
  refine r_ret (N := N1) (P := mNL N1 K (F2 (fun i d => d = .str (W.us.getD i (⟨#[]⟩, [])).1) ((List.range kvs.length).filter bs))) ?_ g1.sub fun v N' C' g p => rt v N' C' (g1.trans g) (hP _ _ (mNL_up g1.up p fun ds hds => ?_))
  · refine j_lc2n (own := [("user", 2), ("names", 3)]) _ bs 2 3 rfl hN (pi_items pE) (ji_items (J.ev (j_fld (jv 0) ca1.obj T.cl T.n1 (catF_ut a))) h1) (by omega) (blk_by (N := ["self", "module", "user", "names"]) (sc := defScope (inClass (top 44) 3)) (by decide +kernel))
      (fun s0 H0 C0 cl fp => pg_tup rfl (pgs_cons (pg_name hN rfl (Or.inl rfl)) (pgs_cons (pg_name hN rfl (Or.inl rfl)) pgs_nil))) (fun x y => rfl) fun i x M2 hi eM2 hx => ?_
    obtain ⟨Tt, k, v, hkv, rfl, hT⟩ := hx
    obtain ⟨u, hu, rfl, hd⟩ := hk i k v hkv
    have eu : W.us.getD i (⟨#[]⟩, []) = u := by rw [List.getD_eq_getElem?_getD, hu] <;> rfl
    refine ⟨Tt, .str u.1, v, rfl, SqT.of hT, fun s0 H0 C0 cl fp => jts_one ?_, fun _ s0 H0 C0 cl fp => ?_⟩
    · show JT _ _ _ _ (decide (m ∈ (W.us.getD i (⟨#[]⟩, [])).2))
      rw [eu]
      exact jt_inN (jv 1) (jv 3) fun y M3 g p => by
        have p' : y = v := p
        subst p'
        exact .inl (dp_mono (eM2.trans g) hd)
    · rw [eu]
      exact (jv 2).imp fun y M3 g p => ⟨_, rfl, by
        have p' : y = V.str u.1 := p
        subst p'
        exact .str _⟩
  · rw [F2.map hds, hl]
    show _ = strsD (W.users m)
    have e := filter_places (fun p : PySem.Str × List PySem.Str => decide (m ∈ p.2)) (fun p => PyData.str p.1) W.us (⟨#[]⟩, [])
    refine e.trans ?_
    unfold strsD Wr.users
    rw [List.map_map] <;> rfl
end
end Gs

set_option Elab.async false
set_option linter.all false
set_option maxRecDepth 100000
set_option maxHeartbeats 4000000
/-! GsCat3: window, available, is_available. -/
namespace Gs
open PySem PySem.Spec PyProof.Rows L2 Evl
section
variable {P : Program} {w : World} {K : PySem.W.Frag} {mg : PySem.Str → Option Value} {base : Heap} {Cc : Addr}
theorem atI_map {α β : Type} {f : α → β} {l : List α} {x : α} {i : Nat} (h : l[i]? = some x) : atI (l.map f) (i : Int) = some (f x) := by
  unfold atI
  have hi : i < (l.map f).length := by
    rw [List.length_map]
    exact (List.getElem?_eq_some_iff.mp h).1
  rw [ixN_nat hi]
  show (l.map f)[i]? = _
  rw [List.getElem?_map, h] <;> rfl
theorem atI_nat {α : Type} {l : List α} {x : α} {i : Nat} (h : l[i]? = some x) : atI l (i : Int) = some x := by
  have := atI_map (f := id) h
  rwa [List.map_id] at this
def preWindow (K : PySem.W.Frag) (Cc : Addr) (vs : List V) (N : Hp) (P : MP) : Prop := ∃ a W m ns n q, ∃ i : Nat, vs = [.ref a.c, .str m, .str n, .int (i : Int)] ∧ CatAt K Cc N a W ∧ WOk W ∧ (m, ns) ∈ W.us ∧ n ∈ ns ∧ i < W.cnt m ∧ (W.win m n)[i]? = some q ∧ P = mD K (wD q)
theorem ok_window (F : MF K Cc "window" "Catalog.window" (inClass (top 44) 7)) (T : CatC K Cc) (c1 : Cl P w K mg base 1 "require_module" (preReqMod K Cc)) (c2 : Cl P w K mg base 2 "is_version" preIsVer) : Mt P w K mg base 3 Cc "window" (preWindow K Cc) := by
  refine mt_of (N := ["self", "user", "used", "version"]) (ps := ["self", "user", "used", "version"]) F (by decide +kernel) (fun vs M Pm h => ?_) (fun _ _ _ _ _ _ us hl => match us, hl with | [_, _, _, _], _ => rfl) fun f cdv A outer s C E vs M Pm D hr eM h rt nx => ?_
  · obtain ⟨a, W, m, ns, n, q, i, rfl, _⟩ := h; rfl
  obtain ⟨a, W, m, ns, n, q, i, rfl, ca, wo, hns, hn, hi, hq, rfl⟩ := h
  have hm : m ∈ W.mods := us_mem hns
  refine r_drop (N := M) (P := mIs .non) ?_ eM fun x N1 C1 g1 p1 => ?_
  · refine j_call c1 hr (ja_cons (jv 0) (ja_cons (jv 1) ja_nil)) fun vs M' g p => ?_
    obtain ⟨x, y, rfl, rfl, rfl⟩ := la2 p
    exact ⟨a, W, m, rfl, ca.mono g, wo, hm, rfl⟩
  have ca1 := ca.mono g1.up
  obtain ⟨v, gd, hd⟩ := ca1.uses wo hns
  refine r_skip (N := N1) ?_ g1.sub fun C2 e2 => ?_
  · refine (jt_niN (ns := ns) (jv 2) (j_dget (hu_of hr) (j_fld (jv 0) ca1.obj T.cl T.n1 (catF_ut a)) (jv 1) gd) fun y M' g p => ?_).is (by rw [decide_eq_true hn]; rfl)
    have p' : y = v := p
    subst p'
    exact .inl (dp_mono g hd)
  have s2 : Ex N1 C2 := g1.sub.trans e2
  refine r_skip (N := N1) ?_ s2 fun C3 e3 => ?_
  · refine JW.t (jw_orF (jt_notF (jt_val (j_call c2 hr (ja_cons (jv 3) ja_nil) fun vs M' g p => ?_))) (jw_or1 ((jt_cmp op_ge (jv 3) (j_dget (hu_of hr) (j_fld (jv 0) ca1.obj T.cl T.n3 (catF_ct a)) (jv 1) (ca1.cnt hm)) rv_I0).is (decide_eq_false (by omega)))))
    obtain ⟨x, rfl, rfl⟩ := la1 p
    exact ⟨i, rfl, by rw [decide_eq_true (by omega : (0 : Int) ≤ (i : Int))]⟩
  obtain ⟨kvs, k1, k2⟩ := ca1.wt
  obtain ⟨ws, l1, l2⟩ := ca1.ls m ns n hns hn
  refine r_ret (N := N1) (P := mD K (wD q)) ?_ (s2.trans e3) fun v N' C' g p => rt v N' C' ((g1.trans (Gr.of_ex g1.sub (e2.trans e3))).trans g) p
  refine j_ixL (ds := (W.win m n).map wD) ((j_dget2 (k1 := .inr m) (k2 := .inr n) (hu_of hr) (j_fld (jv 0) ca1.obj T.cl T.n2 (catF_wt a)) (jv 1) (jv 2) k1 (k2 m ns n hns hn)).val (Dp.lst (SqL.of l1) l2)) (jv 3) (atI_map hq)
def preAvail (K : PySem.W.Frag) (Cc : Addr) (vs : List V) (N : Hp) (P : MP) : Prop := ∃ a W m, vs = [.ref a.c, .str m] ∧ CatAt K Cc N a W ∧ WOk W ∧ m ∈ W.mods ∧ mle (mNL N K (· = (W.there m).map .int)) P
theorem CatAt.wdr {K : PySem.W.Frag} {C : Hp} {a : CatA} {W : Wr} (h : CatAt K Cc C a W) {m : PySem.Str} (hm : m ∈ W.mods) : DGet C a.wd (.str m) (some (.ref (a.d m))) ∧ ∀ i : Int, ∃ r, DGet C (a.d m) (.int i) r ∧ r.isSome = decide (i ∈ W.wd m) := by
  obtain ⟨kvs, h1, h2⟩ := h.wd
  obtain ⟨kv2, h3, _, h4⟩ := h.ds m hm
  exact ⟨.inl ⟨kvs, .inr m, .inl h1, rfl, (h2 m hm).symm⟩, fun i => ⟨valV kv2 (.inl i), .inl ⟨kv2, .inl i, .inl h3, rfl, rfl⟩, h4 i⟩⟩
theorem ok_available (F : MF K Cc "available" "Catalog.available" (inClass (top 44) 9)) (B : Bt mg) (T : CatC K Cc) (c1 : Cl P w K mg base 1 "require_module" (preReqMod K Cc)) : Mt P w K mg base 2 Cc "available" (preAvail K Cc) := by
  refine mt_of (N := ["self", "module", "withdrawn", "version"]) (ps := ["self", "module"]) F (by decide +kernel) (fun vs M Pm h => ?_) (fun _ _ _ _ _ _ us hl => match us, hl with | [_, _], _ => rfl) fun f cdv A outer s C E vs M Pm D hr eM h rt nx => ?_
  · obtain ⟨a, W, m, rfl, _⟩ := h; rfl
  obtain ⟨a, W, m, rfl, ca, wo, hm, hP⟩ := h
  have hN : (["self", "module", "withdrawn", "version"] : List PySem.Str).Nodup := by decide
  refine r_drop (N := M) (P := mIs .non) ?_ eM fun x N1 C1 g1 p1 => ?_
  · refine j_call c1 hr (ja_cons (jv 0) (ja_cons (jv 1) ja_nil)) fun vs M' g p => ?_
    obtain ⟨x, y, rfl, rfl, rfl⟩ := la2 p
    exact ⟨a, W, m, rfl, ca.mono g, wo, hm, rfl⟩
  have ca1 := ca.mono g1.up
  obtain ⟨w1, w2⟩ := ca1.wdr hm
  refine r_set 2 (N := N1) (P := mIs (.ref (a.d m))) (j_dget (hu_of hr) (j_fld (jv 0) ca1.obj T.cl T.n4 (catF_wd a)) (jv 1) w1) g1.sub hN fun v N2 C2 g2 p2 => ?_
  have p2' : v = V.ref (a.d m) := p2
  subst p2'
  have ca2 := ca1.mono g2.up
  obtain ⟨w1, w2⟩ := ca2.wdr hm
  have hcs := wo.cs m
  refine r_ret (N := N2) (P := mNL N2 K (F2 (fun i d => d = .int (i : Nat)) ((List.range (W.cnt m)).filter fun i : Nat => !decide ((i : Int) ∈ W.wd m)))) ?_ g2.sub fun v N' C' g p => rt v N' C' ((g1.trans g2).trans g) (hP _ _ (mNL_up (g1.trans g2).up p fun ds hds => ?_))
  · refine j_lc (own := [("version", 3)]) _ _ 3 rfl hN (pi_range1 rfl B.range pA) (ji_range (n := W.cnt m) (ja_cons (j_dget (hu_of hr) (j_fld (jv 0) ca2.obj T.cl T.n3 (catF_ct a)) (jv 1) (ca2.cnt hm)) ja_nil) rfl (by omega)) (by omega) (blk_by (N := ["self", "module", "withdrawn", "version"]) (sc := defScope (inClass (top 44) 9)) (by decide +kernel)) (fun s0 H0 C0 cl fp => pg_name hN rfl (Or.inl rfl)) (fun x => rfl) fun i x M2 hi eM2 hx => ?_
    have hx' : x = V.int (i : Nat) := hx
    subst hx'
    obtain ⟨r, hr1, hr2⟩ := w2 (i : Nat)
    refine ⟨fun s0 H0 C0 cl fp => jts_one ?_, fun _ s0 H0 C0 cl fp => (jv 3).imp fun y M3 g p => ⟨_, rfl, ?_⟩⟩
    · show JT _ _ _ _ (!decide (((i : Nat) : Int) ∈ W.wd m))
      rw [← hr2]
      exact jt_dnin (hu_of hr) (jv 3) (jv 2) (dget_mono eM2 hr1)
    · have p' : y = V.int (i : Nat) := p
      subst p'
      exact .int _
  · rw [F2.map hds]
    unfold Wr.there
    rw [List.map_map] <;> rfl
def preIsAvail (K : PySem.W.Frag) (Cc : Addr) (vs : List V) (N : Hp) (P : MP) : Prop := ∃ a W m, ∃ i : Nat, vs = [.ref a.c, .str m, .int (i : Int)] ∧ CatAt K Cc N a W ∧ WOk W ∧ m ∈ W.mods ∧ ((i : Int) ∈ W.there m) ∧ P = mIs (.bl true)
theorem ok_is_available (F : MF K Cc "is_available" "Catalog.is_available" (inClass (top 44) 8)) (T : CatC K Cc) (c1 : Cl P w K mg base 1 "require_module" (preReqMod K Cc)) (c2 : Cl P w K mg base 2 "is_version" preIsVer) : Mt P w K mg base 3 Cc "is_available" (preIsAvail K Cc) := by
  refine mt_of (N := ["self", "module", "version"]) (ps := ["self", "module", "version"]) F (by decide +kernel) (fun vs M Pm h => ?_) (fun _ _ _ _ _ _ us hl => match us, hl with | [_, _, _], _ => rfl) fun f cdv A outer s C E vs M Pm D hr eM h rt nx => ?_
  · obtain ⟨a, W, m, i, rfl, _⟩ := h; rfl
  obtain ⟨a, W, m, i, rfl, ca, wo, hm, hi, rfl⟩ := h
  obtain ⟨k, hk, hk2, hk3⟩ := there_mem.mp hi
  refine r_drop (N := M) (P := mIs .non) ?_ eM fun x N1 C1 g1 p1 => ?_
  · refine j_call c1 hr (ja_cons (jv 0) (ja_cons (jv 1) ja_nil)) fun vs M' g p => ?_
    obtain ⟨x, y, rfl, rfl, rfl⟩ := la2 p
    exact ⟨a, W, m, rfl, ca.mono g, wo, hm, rfl⟩
  have ca1 := ca.mono g1.up
  obtain ⟨w1, w2⟩ := ca1.wdr hm
  refine r_skip (N := N1) ?_ g1.sub fun C3 e3 => ?_
  · refine JW.t (jw_orF (jt_notF (jt_val (j_call c2 hr (ja_cons (jv 2) ja_nil) fun vs M' g p => ?_))) (jw_or1 ((jt_cmp op_ge (jv 2) (j_dget (hu_of hr) (j_fld (jv 0) ca1.obj T.cl T.n3 (catF_ct a)) (jv 1) (ca1.cnt hm)) rv_I0).is (decide_eq_false (by omega)))))
    obtain ⟨x, rfl, rfl⟩ := la1 p
    exact ⟨i, rfl, by rw [decide_eq_true (by omega : (0 : Int) ≤ (i : Int))]⟩
  obtain ⟨r, hr1, hr2⟩ := w2 (i : Nat)
  refine r_ret (N := N1) (P := mIs (.bl true)) ?_ (g1.sub.trans e3) fun v N' C' g p => rt v N' C' ((g1.trans (Gr.of_ex g1.sub e3)).trans g) p
  have e : (!r.isSome) = true := by rw [hr2, decide_eq_false hk3] <;> rfl
  rw [← e]
  exact j_dnin (hu_of hr) (jv 2) (j_dget (hu_of hr) (j_fld (jv 0) ca1.obj T.cl T.n4 (catF_wd a)) (jv 1) w1) hr1
end
end Gs

set_option Elab.async false
set_option linter.all false
set_option maxRecDepth 100000
set_option maxHeartbeats 4000000
/-! GsDem: lists that a def fills; the demands. -/
namespace Gs
open PySem PySem.Spec PyProof.Rows L2 Evl

/-! ### data without lists stays where a list goes -/
mutual
def noL : PyData → Bool
  | .list _ => false
  | .dict _ => false
  | .tuple ds => noLs ds
  | _ => true
def noLs : List PyData → Bool
  | [] => true
  | d :: r => noL d && noLs r
end
theorem sqt_del {K : PySem.W.Frag} {H H' : Hp} (k : ∀ b o, H b = some o → (∀ xs, o ≠ .lst xs) → H' b = some o) {a : Addr} {xs : List V} (h : SqT K H a xs) : SqT K H' a xs := by
  rcases h with (h | ⟨o, h⟩) | h
  · exact .inl (.inl (k _ _ h fun _ z => by cases z))
  · exact .inl (.inr ⟨o, k _ _ h fun _ z => by cases z⟩)
  · exact .inr h
mutual
theorem dp_del {K : PySem.W.Frag} {H H' : Hp} (k : ∀ b o, H b = some o → (∀ xs, o ≠ .lst xs) → H' b = some o) : ∀ {v : V} {d : PyData}, noL d = true → Dp K H v d → Dp K H' v d
  | _, _, _, .non => .non
  | _, _, _, .bl b => .bl b
  | _, _, _, .int i => .int i
  | _, _, _, .str x => .str x
  | _, _, h, .lst _ _ => by simp [noL] at h
  | _, _, h, .tup s a => .tup (sqt_del k s) (dps_del k (by simpa [noL] using h) a)
theorem dps_del {K : PySem.W.Frag} {H H' : Hp} (k : ∀ b o, H b = some o → (∀ xs, o ≠ .lst xs) → H' b = some o) : ∀ {vs : List V} {ds : List PyData}, noLs ds = true → DpAll K H vs ds → DpAll K H' vs ds
  | _, _, _, .nil => .nil
  | _, _, h, .cons a r => by
    have h' := Bool.and_eq_true_iff.mp (show (noL _ && noLs _) = true by simpa [noLs] using h)
    exact .cons (dp_del k h'.1 a) (dps_del k h'.2 r)
end
theorem noLs_all : ∀ {ds : List PyData}, (∀ d ∈ ds, noL d = true) → noLs ds = true
  | [], _ => rfl
  | d :: r, h => by
    unfold noLs
    rw [h d (List.mem_cons_self ..), noLs_all fun x hx => h x (List.mem_cons_of_mem _ hx)] <;> rfl
theorem Gr.del {N C N' C' : Hp} (a : Gr N C N' C') {l : Addr} (h : N l = none) : Gr N C (L2.del N' l) C' := ⟨fun b u e => by
    have : b ≠ l := fun z => by rw [z, h] at e; cases e
    rw [del_ne this]; exact a.up b u e, fun b u e => by
    by_cases q : b = l
    · subst q; rw [del_same] at e; cases e
    · rw [del_ne q] at e; exact a.sub b u e, a.ext, fun b u e => by
    by_cases q : b = l
    · subst q; rw [del_same] at e; cases e
    · rw [del_ne q] at e; exact a.dom b u e⟩
/-- a new list, taken out of the part so that it may be filled -/
theorem out_list {K : PySem.W.Frag} {N C N' C' : Hp} {v : V} {R : List PyData → Prop} (g : Gr N C N' C') (p : (mNL N K R).p v N') (hR : ∀ ds, R ds → ∀ d ∈ ds, noL d = true) :
    ∃ l xs ds M, v = .ref l ∧ Gr N C M C' ∧ M l = none ∧ C' l = some (.lst xs) ∧ DpAll K M xs ds ∧ R ds := by
  obtain ⟨l, xs, ds, rfl, h1, h2, h3, h4⟩ := p
  refine ⟨l, xs, ds, L2.del N' l, rfl, g.del h1, del_same, g.sub l _ h2, dps_del (fun b o e hne => ?_) (noLs_all (hR ds h4)) h3, h4⟩
  have : b ≠ l := fun z => by rw [z, h2] at e; cases e; exact hne _ rfl
  rw [del_ne this]; exact e
/-- .. and counted in again -/
theorem in_list {K : PySem.W.Frag} {N C M C' : Hp} {l : Addr} {xs : List V} {ds : List PyData} {R : List PyData → Prop} (g : Gr N C M C') (h1 : M l = none) (h0 : C l = none) (h2 : C' l = some (.lst xs)) (h3 : DpAll K M xs ds) (h4 : R ds) : Gr N C (upd M l (.lst xs)) C' ∧ (mNL N K R).p (.ref l) (upd M l (.lst xs)) :=
  ⟨g.take h2 h0 (fresh_back g.up h1), l, xs, ds, rfl, fresh_back g.up h1, upd_same, dps_mono (Ex.new h1) h3, h4⟩
section
variable {X : Cx} {e o : Expr} {rest : List Stmt} {σ : L2.St} {N C : Hp} {P : MP} {D : Ends} {pos apos cpos : Pos} {l : Addr} {xs : List V}
/-- l.append(e), l a list that the part does not hold -/
theorem r_app (ho : J X o σ N (mIs (.ref l))) (he : J X e σ N P) (eN : Ex N C) (hN : N l = none) (hC : C l = some (.lst xs)) (hz : xs.length < 100000) (k : ∀ v N' C', Gr N C N' C' → N' l = none → P.p v N' → tR X rest D σ (upd C' l (.lst (xs ++ [v]))))
    (hs : swapsWith (.Call (.Attribute o "append" apos) [e] [] cpos) none pos.line X.env = pure false := by rfl)
    (hbase : attributeBase o "append" X.env (eval o X.env) = eval o X.env := by rfl)
    (hfew : ((backTo cpos (starEach [e] X.env)).all (fun x => !x.1) && (backToKw cpos (keywordEach [] X.env)).all (fun x => x.1.isSome) && decide (([e] : List Expr).length + ([] : List Keyword).length + (if ([] : List Keyword).isEmpty then 0 else 1) < 30)) = true := by rfl)
    (hline : (apos.endLine == cpos.line) = true := by rfl) (hst : starEach [e] X.env = (false, eval e X.env) :: starEach [] X.env := by rfl) (hplain : (backTo cpos (starEach [] X.env)).any (·.1) = false := by rfl) :
    tR X (.Expr (.Call (.Attribute o "append" apos) [e] [] cpos) pos :: rest) D σ C := by
  refine r_of (ps_expr (pe_bm PySem.F.plainAttrs_list PySem.F.slot_list_append PySem.F.type_list_append mt_append pE (pa_cons pE pa_nil hst) hbase hfew hline hst hplain) hs) ?_
  refine ho.ev C eN _ fun C1 e1 => ⟨.inl ⟨rfl, xs, SqL.of (e1 _ _ hC)⟩, ?_⟩
  refine he C1 (eN.trans e1) _ fun v N' C' g p => ?_
  have g' : Gr N C N' C' := (Gr.of_ex eN e1).trans g
  have hl : N' l = none := g'.out hN hC
  exact ⟨l, xs, v, rfl, rfl, g'.ext _ _ hC, sz_lt hz, k v N' C' g' hl p⟩
/-- a list compared with [] -/
theorem rv_neNil {K : PySem.W.Frag} {N : Hp} {x y : V} {ds : List PyData} (hs : SeqAt.shaped (.list ds) = true) (hx : Dp K N x (.list ds)) (hy : Dp K N y (.list [])) : RV (rNeD K) x y N (.bl (decide (ds ≠ []))) := rv_val fun H1 e Q q => ⟨.list ds, .list [], dp_mono e hx, dp_mono e hy, hs, rfl, by
  have : (!PyData.eqv (.list ds) (.list [])) = decide (ds ≠ []) := by
    cases ds with
    | nil => rfl
    | cons d r => rfl
  rw [this]; exact q⟩
end
def dD (d : PySem.Str × Int) : PyData := .tuple [.str d.1, .int d.2]
section
variable {P : Program} {w : World} {K : PySem.W.Frag} {mg : PySem.Str → Option Value} {base : Heap} {Cc : Addr}
def preIsDem (K : PySem.W.Frag) (Cc : Addr) (vs : List V) (N : Hp) (P : MP) : Prop := ∃ a W v m i, vs = [.ref a.c, v] ∧ CatAt K Cc N a W ∧ WOk W ∧ m ∈ W.mods ∧ Dp K N v (dD (m, i)) ∧ 0 ≤ i ∧ P = mIs (.bl true)
section
variable {X : Cx} {e a : Expr} {σ : L2.St} {N : Hp} {P : MP} {pos : Pos} {m : PySem.Str} {ns : List PySem.Str}
theorem j_inN (ha : J X a σ N (mIs (.str m))) (he : J X e σ N P) (hd : ∀ v M, Ex N M → P.p v M → Dp X.K M v (.tuple (strsD ns)) ∨ Dp X.K M v (.list (strsD ns))) (hm : behindInMarks .In e = false := by first | exact nomark _ | with_unfolding_all rfl) : J X (.Compare a [.In] [e] pos) σ N (mIs (.bl (decide (m ∈ ns)))) :=
  j_cmpP op_in_seq ha he (fun x y M g hx hy => by
    have hx' : x = V.str m := hx
    subst hx'
    rw [← inV_strs]
    rcases hd y M g hy with h | h
    · obtain ⟨b, xs, rfl, s, al⟩ := dp_tup h
      have := dps_strs_inv al
      subst this
      exact rp_rv (rv_isT s rfl (flat_strs ns)) rfl
    · obtain ⟨b, xs, rfl, s, al⟩ := dp_lst h
      have := dps_strs_inv al
      subst this
      exact rp_rv (rv_isL s rfl (flat_strs ns)) rfl) hm
end
theorem ok_is_demand (F : DF K mg "is_demand" (top 30)) (B : Bt mg) (T : CatC K Cc) (c1 : Mt P w K mg base 1 Cc "modules" (preMods K Cc)) (c2 : Cl P w K mg base 2 "is_version" preIsVer) : Cl P w K mg base 3 "is_demand" (preIsDem K Cc) := by
  refine cl_of (N := ["catalog", "value", "module", "version"]) (ps := ["catalog", "value"]) F (by decide +kernel) (fun vs M Pm h => ?_) (fun _ _ _ _ _ _ us hl => match us, hl with | [_, _], _ => rfl) fun f cdv A outer s C E vs M Pm D hr eM h rt nx => ?_
  · obtain ⟨a, W, v, m, i, rfl, _⟩ := h; rfl
  obtain ⟨a, W, v, m, i, rfl, ca, wo, hm, hd, hi, rfl⟩ := h
  have hN : (["catalog", "value", "module", "version"] : List PySem.Str).Nodup := by decide
  refine r_skip (N := M) ?_ eM fun C1 e1 => ?_
  · exact JW.t (jw_orF (jt_notF (jt_val (j_isi (b := true) (vt := "tuple") (P := mD K (dD (m, i))) (j_var 1 hd) (fun v M g p => tyx_dtup p) B.tuple PyProof.Rows.Boot.«tuple» (by decide +kernel) B.isi)))
      (jw_or1 (jt_cmp op_ne (j_lenT (ds := [.str m, .int i]) (j_var 1 hd) B.len) j_int rv_neI)))
  have s1 := eM.trans e1
  refine r_asg (N := M) (j_var 1 (P := mD K (dD (m, i))) hd) s1 (pg_tup rfl (pgs_cons (pg_name (i := 2) hN rfl (Or.inl rfl)) (pgs_cons (pg_name (i := 3) hN rfl (Or.inl rfl)) pgs_nil))) fun v' N2 C2 gr hp => g2 hp gr.sub fun v1 v2 h1 h2 => ?_
  obtain rfl := dp_str h1
  obtain rfl := dp_int h2
  have ca2 := ca.mono gr.up
  refine r_ret (N := N2) (P := mIs (.bl true)) ?_ gr.sub fun v N' C' g p => rt v N' C' ((Gr.of_ex eM e1).trans (gr.trans g)) p
  refine j_andT (j_isi (b := true) (vt := "str") (jv 2) (fun v M g p => ?_) B.str PyProof.Rows.Boot.«str» (by decide +kernel) B.isi) (j_andT ((j_inN (ns := W.mods) (jv 2) (j_meth0 c1 T.cl hr (jv 0) ca2.obj (catF_no a (by decide +kernel)) fun M' g => ⟨a, W, rfl, ca2.mono g, wo, fun v H p => mNL_up (R' := (· = strsD W.mods)) g p fun _ h => h⟩) fun v M' g p => ?_).is (by rw [decide_eq_true hm])) (j_one (j_call c2 hr (ja_cons (jv 3) ja_nil) fun vs M' g p => ?_)))
  · have p' : v = V.str m := p
    subst p'; exact .base (.str m)
  · exact .inr (mNL_D p fun es h => h)
  · obtain ⟨x, rfl, rfl⟩ := la1 p
    exact ⟨i, rfl, by rw [decide_eq_true hi]⟩
end
end Gs

set_option Elab.async false
set_option linter.all false
set_option maxRecDepth 100000
set_option maxHeartbeats 4000000
/-! GsDem2: settled, first_reaching. -/
namespace Gs
open PySem PySem.Spec PyProof.Rows L2 Evl

theorem layAll {ds : List PyData} (h : ∀ d ∈ ds, d.canLay0 = true) : PyData.canLayAll0 ds = true := by
  induction ds with
  | nil => rfl
  | cons d r ih =>
    unfold PyData.canLayAll0
    rw [h d (List.mem_cons_self ..), ih fun x hx => h x (List.mem_cons_of_mem _ hx)] <;> rfl
theorem depAll {ds : List PyData} {k : Nat} (h : ∀ d ∈ ds, d.depth ≤ k) : PyData.depthAll ds ≤ k := by
  induction ds with
  | nil => exact Nat.zero_le _
  | cons d r ih =>
    unfold PyData.depthAll
    exact Nat.max_le.mpr ⟨h d (List.mem_cons_self ..), ih fun x hx => h x (List.mem_cons_of_mem _ hx)⟩
theorem shapedL {ds : List PyData} (h : ∀ d ∈ ds, d.canLay0 = true ∧ d.depth ≤ 5) : SeqAt.shaped (.list ds) = true := by
  have h2 := depAll fun d hd => (h d hd).2
  show (PyData.canLay0 (.list ds) && decide (PyData.depth (.list ds) ≤ 64)) = true
  rw [Bool.and_eq_true]
  refine ⟨by simp only [PyData.canLay0]; exact layAll fun d hd => (h d hd).1, decide_eq_true ?_⟩
  simp only [PyData.depth]
  omega
theorem shaped_ints (ns : List Int) : SeqAt.shaped (.list (ns.map .int)) = true := shapedL fun d hd => by
  obtain ⟨i, _, rfl⟩ := List.mem_map.mp hd
  exact ⟨rfl, by simp [PyData.depth]⟩
theorem atI0 {α : Type} {x : α} {r : List α} : atI (x :: r) 0 = some x := atI_nat (i := 0) rfl
def sett (W : Wr) (m : PySem.Str) (v : Int) : Option Int := ((W.there m).filter fun x => decide (v ≤ x)).head?
section
variable {P : Program} {w : World} {K : PySem.W.Frag} {mg : PySem.Str → Option Value} {base : Heap} {Cc : Addr}
def preReqDem (K : PySem.W.Frag) (Cc : Addr) (vs : List V) (N : Hp) (P : MP) : Prop := ∃ a W v m i, vs = [.ref a.c, v] ∧ CatAt K Cc N a W ∧ WOk W ∧ m ∈ W.mods ∧ Dp K N v (dD (m, i)) ∧ 0 ≤ i ∧ P = mIs .non
theorem ok_require_demand (F : DF K mg "require_demand" (top 31)) (c1 : Cl P w K mg base 3 "is_demand" (preIsDem K Cc)) : Cl P w K mg base 4 "require_demand" (preReqDem K Cc) := by
  refine cl_of (N := ["catalog", "value"]) (ps := ["catalog", "value"]) F (by decide +kernel) (fun vs M Pm h => ?_) (fun _ _ _ _ _ _ us hl => match us, hl with | [_, _], _ => rfl) fun f cdv A outer s C E vs M Pm D hr eM h rt nx => ?_
  · obtain ⟨a, W, v, m, i, rfl, _⟩ := h; rfl
  obtain ⟨a, W, v, m, i, rfl, ca, wo, hm, hd, hi, rfl⟩ := h
  refine r_skip (N := M) ?_ eM fun C1 e1 => r_nil (nx M C1 _ (Gr.of_ex eM e1) rfl)
  refine jt_notF (jt_val (j_call c1 hr (ja_cons (jv 0) (ja_cons (j_var 1 (P := mD K (dD (m, i))) hd) ja_nil)) fun vs M' g p => ?_))
  obtain ⟨x, y, rfl, rfl, hy⟩ := la2 p
  exact ⟨a, W, y, m, i, rfl, ca.mono g, wo, hm, hy, hi, rfl⟩
def preSettV (K : PySem.W.Frag) (Cc : Addr) (vs : List V) (N : Hp) (P : MP) : Prop := ∃ a W m i, vs = [.ref a.c, .str m, .int i] ∧ CatAt K Cc N a W ∧ WOk W ∧ m ∈ W.mods ∧ P = mIs (hV (sett W m i))
theorem there_len {W : Wr} (o : WOk W) (m : PySem.Str) : (W.there m).length ≤ 10 := by
  have := o.cs m
  unfold Wr.there
  rw [List.length_map]
  have h := List.length_filter_le (fun i : Nat => !decide ((i : Int) ∈ W.wd m)) (List.range (W.cnt m))
  rw [List.length_range] at h
  omega
theorem ok_settled_version (F : DF K mg "settled_version" (top 32)) (T : CatC K Cc) (c1 : Mt P w K mg base 2 Cc "available" (preAvail K Cc)) : Cl P w K mg base 3 "settled_version" (preSettV K Cc) := by
  refine cl_of (N := ["catalog", "module", "version", "found", "other"]) (ps := ["catalog", "module", "version"]) F (by decide +kernel) (fun vs M Pm h => ?_) (fun _ _ _ _ _ _ us hl => match us, hl with | [_, _, _], _ => rfl) fun f cdv A outer s C E vs M Pm D hr eM h rt nx => ?_
  · obtain ⟨a, W, m, i, rfl, _⟩ := h; rfl
  obtain ⟨a, W, m, v, rfl, ca, wo, hm, rfl⟩ := h
  have hN : (["catalog", "module", "version", "found", "other"] : List PySem.Str).Nodup := by decide
  have hl := there_len wo m
  refine r_setLc 3 (K := K) (N := M) (n := ((W.there m).map PyData.int).length) (own := [("other", 4)]) (I := fun j => mR K fun d => ((W.there m).map PyData.int)[j]? = some d) (fun k d => d = .int ((W.there m).getD k 0)) (fun k => decide (v ≤ (W.there m).getD k 0)) 4 eM rfl hN (pi_list pE)
    (ji_list ((j_meth c1 T.cl hr (jv 0) ca.obj (catF_no a (by decide +kernel)) (ja_cons (jv 1) ja_nil) (P := mNL M K (· = (W.there m).map .int)) fun vs M' g p => ?_).imp fun v M' g p => mNL_D p fun es h => h)) (by rw [List.length_map]; omega)
    (blk_by (N := ["catalog", "module", "version", "found", "other"]) (sc := defScope (top 32)) (by decide +kernel)) (fun s0 H0 C0 cl fp => pg_name hN rfl (Or.inl rfl)) (fun x => rfl) (fun k x M2 hk eM2 hx => ?_) fun v1 N1 C1 g1 p1 => ?_
  · obtain ⟨x, rfl, rfl⟩ := la1 p
    exact ⟨a, W, m, rfl, ca.mono g, wo, hm, fun v H p => mNL_up (R' := (· = (W.there m).map .int)) g p fun _ h => h⟩
  · obtain ⟨d, h1, h2⟩ := hx
    rw [List.getElem?_map] at h1
    rw [List.length_map] at hk
    rw [List.getElem?_eq_getElem hk] at h1
    have h1' : PyData.int (W.there m)[k] = d := Option.some.inj h1
    subst h1'
    obtain rfl := dp_int h2
    have e : (W.there m).getD k 0 = (W.there m)[k] := by rw [List.getD_eq_getElem?_getD, List.getElem?_eq_getElem hk] <;> rfl
    rw [e]
    exact ⟨fun s0 H0 C0 cl fp => jts_one (jt_cmp op_ge (jv 4) (jv 2) rv_I0), fun _ s0 H0 C0 cl fp => (jv 4).imp fun y M3 g p => ⟨_, rfl, by
      have p' : y = V.int (W.there m)[k] := p
      subst p'
      exact .int _⟩⟩
  have hd : (mD K (.list (((W.there m).filter fun x => decide (v ≤ x)).map .int))).p v1 N1 := mNL_D p1 fun es h => by
    rw [F2.map h, List.length_map]
    exact filter_places (fun x : Int => decide (v ≤ x)) (fun x => PyData.int x) (W.there m) 0
  have sh := shaped_ints ((W.there m).filter fun x => decide (v ≤ x))
  refine r_ret (N := N1) (P := mIs (hV (sett W m v))) ?_ g1.sub fun v N' C' g p => rt v N' C' (g1.trans g) p
  unfold sett
  refine j_ife (jt_cmpP (op_neD hr.units) (j_var 3 (P := mD K _) hd) (j_lst (K := K) ja_nilD) fun x y M g hx hy => rp_rv (rv_neNil sh hx hy) rfl) (fun h => ?_) fun h => ?_
  · cases e : (W.there m).filter (fun x => decide (v ≤ x)) with
    | nil => rw [e] at h; simp at h
    | cons t r =>
      rw [e] at hd
      exact J.int (j_ixL (j_var 3 (P := mD K _) hd) j_int atI0)
  · cases e : (W.there m).filter (fun x => decide (v ≤ x)) with
    | nil => exact j_non
    | cons t r => rw [e] at h; simp at h
def preSett (K : PySem.W.Frag) (Cc : Addr) (vs : List V) (N : Hp) (P : MP) : Prop := ∃ a W v m i, vs = [.ref a.c, v] ∧ CatAt K Cc N a W ∧ WOk W ∧ m ∈ W.mods ∧ Dp K N v (dD (m, i)) ∧ 0 ≤ i ∧ P = mIs (hV (sett W m i))
theorem ok_settled (F : DF K mg "settled" (top 33)) (c1 : Cl P w K mg base 4 "require_demand" (preReqDem K Cc)) (c2 : Cl P w K mg base 3 "settled_version" (preSettV K Cc)) : Cl P w K mg base 5 "settled" (preSett K Cc) := by
  refine cl_of (N := ["catalog", "demand", "module", "version"]) (ps := ["catalog", "demand"]) F (by decide +kernel) (fun vs M Pm h => ?_) (fun _ _ _ _ _ _ us hl => match us, hl with | [_, _], _ => rfl) fun f cdv A outer s C E vs M Pm D hr eM h rt nx => ?_
  · obtain ⟨a, W, v, m, i, rfl, _⟩ := h; rfl
  obtain ⟨a, W, v, m, i, rfl, ca, wo, hm, hd, hi, rfl⟩ := h
  have hN : (["catalog", "demand", "module", "version"] : List PySem.Str).Nodup := by decide
  refine r_drop (N := M) (P := mIs .non) ?_ eM fun x N1 C1 g1 p1 => ?_
  · refine j_call c1 hr (ja_cons (jv 0) (ja_cons (j_var 1 (P := mD K (dD (m, i))) hd) ja_nil)) fun vs M' g p => ?_
    obtain ⟨x, y, rfl, rfl, hy⟩ := la2 p
    exact ⟨a, W, y, m, i, rfl, ca.mono g, wo, hm, hy, hi, rfl⟩
  refine r_asg (N := N1) (j_var 1 (P := mD K (dD (m, i))) (dp_mono g1.up hd)) g1.sub (pg_tup rfl (pgs_cons (pg_name (i := 2) hN rfl (Or.inl rfl)) (pgs_cons (pg_name (i := 3) hN rfl (Or.inl rfl)) pgs_nil))) fun v' N2 C2 gr hp => g2 hp gr.sub fun v1 v2 h1 h2 => ?_
  obtain rfl := dp_str h1
  obtain rfl := dp_int h2
  have ca2 := ca.mono (g1.trans gr).up
  refine r_ret (N := N2) (P := mIs (hV (sett W m i))) ?_ gr.sub fun v N' C' g p => rt v N' C' (g1.trans (gr.trans g)) p
  refine j_call c2 hr (ja_cons (jv 0) (ja_cons (jv 2) (ja_cons (jv 3) ja_nil))) fun vs M' g p => ?_
  obtain ⟨x, y, z, rfl, rfl, rfl, rfl⟩ := la3 p
  exact ⟨a, W, m, i, rfl, ca2.mono g, wo, hm, rfl⟩
end
end Gs

set_option Elab.async false
set_option linter.all false
set_option maxRecDepth 100000
set_option maxHeartbeats 4000000
/-! GsDem3: first_reaching, demands_of_version. -/
namespace Gs
open PySem PySem.Spec PyProof.Rows L2 Evl
theorem firstR_is {ws : List Wn} {t : Int} {i : Nat} {q : Wn} (h : ws[i]? = some q) (hr : reachB q.2 t = true) (hb : ∀ (k : Nat) (p : Wn), k < i → ws[k]? = some p → reachB p.2 t = false) : firstR ws t = i := by
  refine Nat.le_antisymm (firstR_le h hr) (Nat.le_of_not_lt fun hlt => ?_)
  have hi := (List.getElem?_eq_some_iff.mp h).1
  have hl : firstR ws t < ws.length := Nat.lt_trans hlt hi
  have h1 := hb _ _ hlt (List.getElem?_eq_getElem hl)
  have h2 : reachB (ws[firstR ws t]).2 t = true := List.findIdx_getElem (w := hl)
  rw [h1] at h2
  cases h2
theorem firstR_none {ws : List Wn} {t : Int} (hb : ∀ (k : Nat) (p : Wn), k < ws.length → ws[k]? = some p → reachB p.2 t = false) : firstR ws t = ws.length := by
  refine Nat.le_antisymm List.findIdx_le_length (Nat.le_of_not_lt fun hlt => ?_)
  have h1 := hb _ _ hlt (List.getElem?_eq_getElem hlt)
  have h2 : reachB (ws[firstR ws t]).2 t = true := List.findIdx_getElem (w := hlt)
  rw [h1] at h2
  cases h2
section
variable {P : Program} {w : World} {K : PySem.W.Frag} {mg : PySem.Str → Option Value} {base : Heap} {Cc : Addr}
def preFirst (K : PySem.W.Frag) (Cc : Addr) (vs : List V) (N : Hp) (P : MP) : Prop := ∃ a W u ns m t, vs = [.ref a.c, .str u, .str m, .int t] ∧ CatAt K Cc N a W ∧ WOk W ∧ (u, ns) ∈ W.us ∧ m ∈ ns ∧ P = mIs (.int (firstR (W.win u m) t : Nat))
theorem ok_first_reaching (F : DF K mg "first_reaching" (top 34)) (B : Bt mg) (T : CatC K Cc) (c1 : Mt P w K mg base 2 Cc "versions" (preVers K Cc)) (c2 : Mt P w K mg base 3 Cc "window" (preWindow K Cc)) (c3 : Cl P w K mg base 1 "reaches" (preReaches K)) : Cl P w K mg base 4 "first_reaching" (preFirst K Cc) := by
  refine cl_of (N := ["catalog", "user", "module", "version", "count", "number"]) (ps := ["catalog", "user", "module", "version"]) F (by decide +kernel) (fun vs M Pm h => ?_) (fun _ _ _ _ _ _ us hl => match us, hl with | [_, _, _, _], _ => rfl) fun f cdv A outer s C E vs M Pm D hr eM h rt nx => ?_
  · obtain ⟨a, W, u, ns, m, i, rfl, _⟩ := h; rfl
  obtain ⟨a, W, u, ns, m, t, rfl, ca, wo, hns, hmn, rfl⟩ := h
  have hN : (["catalog", "user", "module", "version", "count", "number"] : List PySem.Str).Nodup := by decide
  have hcs := wo.cs u
  have hlen := wo.len u ns m hns hmn
  refine r_set 4 (N := M) (P := mIs (.int (W.cnt u))) (j_meth c1 T.cl hr (jv 0) ca.obj (catF_no a (by decide +kernel)) (ja_cons (jv 1) ja_nil) fun vs M' g p => ?_) eM hN fun v N1 C1 g1 p1 => ?_
  · obtain ⟨x, rfl, rfl⟩ := la1 p
    exact ⟨a, W, u, rfl, ca.mono g, wo, us_mem hns, rfl⟩
  have p1' : v = V.int (W.cnt u) := p1
  subst p1'
  refine r_for (N := N1) (n := W.cnt u) (I := fun j => mIs (.int (j : Nat))) (pi_range1 rfl B.range pA) (ji_range (n := W.cnt u) (ja_cons (jv 4) ja_nil) rfl (by omega)) g1.sub (pg_name (i := 5) hN rfl (Or.inl rfl)) PassesOwn.never rfl
    (fun N2 i σ C2 => Gr M C N2 C2 ∧ (∃ o, σ = [some (.ref a.c), some (.str u), some (.str m), some (.int t), some (.int (W.cnt u)), o]) ∧ ∀ (k : Nat) (p : Wn), k < i → (W.win u m)[k]? = some p → reachB p.2 t = false)
    (fun N2 C2 g2 => ⟨g1.trans g2, ⟨none, rfl⟩, fun k p hk => absurd hk (Nat.not_lt_zero _)⟩) (fun N2 i σ C2 h => h.1.sub) (fun N2 i x σ C2 M2 C3 e2 hi hP gM hx => ?_) fun N2 σ C2 e2 hP => ?_
  · obtain ⟨g2, ⟨o, rfl⟩, hk⟩ := hP
    have hx' : x = V.int (i : Nat) := hx
    subst hx'
    have g3 := g2.trans gM
    have hq : (W.win u m)[i]? = some ((W.win u m)[i]'(by omega)) := List.getElem?_eq_getElem (by omega)
    generalize (W.win u m)[i]'(by omega) = q at hq
    have ca3 := ca.mono g3.up
    refine r_if (N := M2) (k := reachB q.2 t) (jt_val (j_call c3 hr (ja_cons (j_meth c2 T.cl hr (jv 0) ca3.obj (catF_no a (by decide +kernel)) (ja_cons (jv 1) (ja_cons (jv 2) (ja_cons (jv 5) ja_nil))) (P := mD K (wD q)) fun vs M' g p => ?_) (ja_cons (jv 3) ja_nil)) fun vs M' g p => ?_)) g3.sub (fun hb C4 e4 => ?_) fun hb C4 e4 => ?_
    · obtain ⟨x, y, z, rfl, rfl, rfl, rfl⟩ := la3 p
      exact ⟨a, W, u, ns, m, q, i, rfl, ca3.mono g, wo, hns, hmn, hi, hq, rfl⟩
    · obtain ⟨x, y, rfl, hx, rfl⟩ := la2 p
      exact ⟨x, t, q, rfl, hx, rfl⟩
    · refine r_ret (N := M2) (P := mIs (.int (i : Nat))) (jv 5) (g3.sub.trans e4) fun v N' C' g p => rt v N' C' ((g3.grow e4).trans g) ?_
      have p' : v = V.int (i : Nat) := p
      subst p'
      show V.int (i : Nat) = V.int (firstR (W.win u m) t : Nat)
      rw [firstR_is hq hb hk]
    · refine r_nil (r_nil ⟨⟨g2.up, g2.sub.trans (gM.ext.trans e4), g2.ext.trans (gM.ext.trans e4), g2.dom⟩, ⟨_, rfl⟩, fun k p hk' hp => ?_⟩)
      rcases Nat.lt_succ_iff_lt_or_eq.mp hk' with h | h
      · exact hk k p h hp
      · subst h
        rw [hq] at hp
        cases hp
        exact hb
  · obtain ⟨g2, ⟨o, rfl⟩, hk⟩ := hP
    refine r_ret (N := N2) (P := mIs (.int (W.cnt u))) (jv 4) g2.sub fun v N' C' g p => rt v N' C' (g2.trans g) ?_
    have p' : v = V.int (W.cnt u) := p
    subst p'
    show V.int (W.cnt u) = V.int (firstR (W.win u m) t : Nat)
    rw [firstR_none (by rw [hlen]; exact hk), hlen]
end
end Gs

set_option Elab.async false
set_option linter.all false
set_option maxRecDepth 100000
set_option maxHeartbeats 4000000
/-! GsDem4: lists of exact tuples, a dict as an ordered set of them. -/
namespace Gs
open PySem PySem.Spec PyProof.Rows L2 Evl
/-- a new pair, exactly -/
def mT2 (v1 v2 : V) : MP := ⟨fun v H => ∃ b, v = .ref b ∧ H b = some (.tup [v1, v2]), fun e ⟨b, h1, h2⟩ => ⟨b, h1, e _ _ h2⟩⟩
/-- a new list, its items one by one -/
def mLM {α : Type} (N : Hp) (idx : List α) (E : α → MP) : MP := ⟨fun v H => ∃ (l : Addr) (xs : List V), v = .ref l ∧ N l = none ∧ H l = some (.lst xs) ∧ F2 (fun a x => (E a).p x H) idx xs, fun e ⟨l, xs, h1, h2, h3, h4⟩ => ⟨l, xs, h1, h2, e _ _ h3, h4.mono2 fun a x h => (E a).mono e h⟩⟩
/-- it hangs on no list -/
def NoLst (P : MP) : Prop := ∀ (v : V) (H H' : Hp), (∀ b o, H b = some o → (∀ xs, o ≠ .lst xs) → H' b = some o) → P.p v H → P.p v H'
theorem noLst_T2 (v1 v2 : V) : NoLst (mT2 v1 v2) := fun v H H' k ⟨b, h1, h2⟩ => ⟨b, h1, k _ _ h2 fun _ z => by cases z⟩
theorem outM {α : Type} {N C N' C' : Hp} {v : V} {idx : List α} {E : α → MP} (g : Gr N C N' C') (p : (mLM N idx E).p v N') (hE : ∀ a, NoLst (E a)) :
    ∃ l xs M, v = .ref l ∧ Gr N C M C' ∧ M l = none ∧ N l = none ∧ C' l = some (.lst xs) ∧ F2 (fun a x => (E a).p x M) idx xs := by
  obtain ⟨l, xs, rfl, h1, h2, h3⟩ := p
  refine ⟨l, xs, L2.del N' l, rfl, g.del h1, del_same, h1, g.sub l _ h2, h3.mono2 fun a x h => hE a x _ _ (fun b o e hne => ?_) h⟩
  have : b ≠ l := fun z => by rw [z, h2] at e; cases e; exact hne _ rfl
  rw [del_ne this]; exact e
theorem ep_lcM {wi : TI} {g : TG} {tt : TT} {te : TE} {vs : List Nat} {σ : L2.St} {N : Hp} {n : Nat} {I : Nat → MP} (E : Nat → MP) (bs : Nat → Bool) (hw : JI wi σ N n I) (hn : n ≤ 100000)
    (body : ∀ i x M, i < n → Ex N M → (I i).p x M → ∀ C, Ex M C → g x (wipe σ vs) C fun σ2 C2 => wipe σ2 vs = wipe σ vs ∧ ∃ M2, Gr M C M2 C2 ∧ EvT tt σ2 M2 (bs i) ∧ (bs i = true → EvP te σ2 M2 (E i)))
    (gm : ∀ x s C (Q Q' : L2.St → Hp → Prop), (∀ a b, Q a b → Q' a b) → g x s C Q → g x s C Q') : EvP (tLc wi g tt te vs) σ N (mLM N ((List.range n).filter bs) E) := fun C eC Q q => hw C eC _ fun Jt N1 C1 gr wk D hD => by
  have W : Walk Jt n (fun H => Ex N1 H) (fun i H x H' => ∃ M, Gr N1 H M H' ∧ (I i).p x M) := ⟨fun i H h e => wk.go i H h e, fun H e => wk.stop H e, fun i H x H' h e y => wk.yld i H x H' h e y⟩
  have hN1 : N1 D = none := fresh_back gr.sub hD
  let Pv : Nat → Hp → Prop := fun i H => ∃ (Mi : Hp) (acc : List V), Gr N1 C1 Mi H ∧ Mi D = none ∧ H D = some (.lst acc) ∧ F2 (fun a x => (E a).p x Mi) ((List.range i).filter bs) acc ∧ acc.length ≤ i
  refine lc_it W Pv ⟨N1, [], (Gr.refl gr.sub).grow (Ex.new hD), hN1, upd_same, .nil, Nat.le_refl _⟩ (fun i H _ ⟨Mi, _, gi, _⟩ => gi.up.trans gi.sub) (fun i x H H' hi ⟨Mi, acc, gi, hMi, hH, hf, hl⟩ ⟨M, gM, hp⟩ => ?_) fun H ⟨Mi, acc, gi, hMi, hH, hf, hl⟩ => ?_
  · obtain ⟨g1, e1⟩ := gM.more gi.up gi.sub
    refine gm _ _ _ _ _ (fun σ2 C2 hh => ?_) (body i x (un Mi M) hi ((gr.up.trans gi.up).trans g1.up) ((I i).mono e1 hp) H' g1.sub)
    obtain ⟨hwp, M2, g2, ht, he⟩ := hh
    refine ⟨hwp, ht C2 g2.sub _ fun C3 e3 => ?_⟩
    have g3 : Gr Mi H M2 C3 := g1.trans (g2.grow e3)
    have rf := range_filter bs i
    cases hb : bs i with
    | true =>
      refine iteT (he hb C3 g3.sub _ fun y N4 C4 g4 py => ?_)
      have g5 : Gr Mi H N4 C4 := g3.trans g4
      have h4 : N4 D = none := g5.out hMi hH
      refine ⟨acc, g5.ext D _ hH, sz_lt (by omega), N4, acc ++ [y], (gi.trans g5).mut hD h4, h4, upd_same, ?_, ?_⟩
      · rw [rf, if_pos hb]; exact F2.snoc (E := fun a x => (E a).p x N4) py (hf.mono2 fun a x h => (E a).mono g5.up h)
      · rw [List.length_append, List.length_singleton]; omega
    | false =>
      refine iteF ⟨M2, acc, gi.trans g3, g3.out hMi hH, g3.ext D _ hH, ?_, by omega⟩
      rw [rf, if_neg (by rw [hb]; exact Bool.false_ne_true)]
      exact hf.mono2 fun a x h => (E a).mono g3.up h
  · have gT : Gr N C (upd Mi D (.lst acc)) H := (gr.trans gi).take hH (fresh_back gr.ext hD) (fresh_back gr.up hN1)
    exact q (.ref D) (upd Mi D (.lst acc)) H gT ⟨D, acc, rfl, fresh_back gr.up hN1, upd_same, hf.mono2 fun a x h => (E a).mono (Ex.new hMi) h⟩
section
variable {X : Cx} {elt tg iter : Expr} {ifs : List Expr} {scope : Scope} {own : List (PySem.Str × Nat)} {pos spos py : Pos} {wi : TI} {σ : L2.St} {N C : Hp} {n j i0 : Nat} {I : Nat → MP} {y : PySem.Str} {D : Ends} {rest : List Stmt}
theorem r_setLcM (i0 : Nat) (E : Nat → MP) (bs : Nat → Bool) (j : Nat) (eN : Ex N C) (hc : X.calm = true) (hN : X.N.Nodup) (hi : PI X tg iter wi) (hw : JI wi σ N n I) (hn : n ≤ 100000) (ok : BlkOk X.N X.env.scope scope own) (hg : BlkIs X scope fun Y => PG Y tg (gName j))
    (hwp : ∀ x, wipe ((wipe σ (own.map (·.2))).set j x) (own.map (·.2)) = wipe σ (own.map (·.2)))
    (body : ∀ i x M, i < n → Ex N M → (I i).p x M → BlkIs X scope (fun Y => JTs Y ifs ((wipe σ (own.map (·.2))).set j (some x)) M (bs i)) ∧ (bs i = true → BlkIs X scope fun Y => J Y elt ((wipe σ (own.map (·.2))).set j (some x)) M (E i)))
    (k : ∀ v N' C', Gr N C N' C' → (mLM N ((List.range n).filter bs) E).p v N' → tR X rest D (σ.set i0 (some v)) C')
    (hy : X.N[i0]? = some y := by rfl) (hyl : X.env.scope.names.lookup y = some .local := by rfl) (hsw : swapsWith (.ListComp elt [⟨tg, iter, ifs, 0⟩] scope pos) (some (.Name y py)) spos.line X.env = pure true := by rfl)
    (hs : ∀ x, foldedSetIterable iter X.env x = pure x := by intro _; rfl) : tR X (.Assign [.Name y py] (.ListComp elt [⟨tg, iter, ifs, 0⟩] scope pos) spos :: rest) D σ C :=
  r_of (ps_setLc hc hN hy hyl hsw hi ok hg pTsb pEb hs) (ep_lcM E bs hw hn (fun i x M hi' eM hp C eC => ⟨hwp _, M, Gr.refl eC, evt (body i x M hi' eM hp).1, fun hb => evb ((body i x M hi' eM hp).2 hb)⟩) gm_name C eN _ k)
theorem j_lcM (E : Nat → MP) (bs : Nat → Bool) (j : Nat) (hc : X.calm = true) (hN : X.N.Nodup) (hi : PI X tg iter wi) (hw : JI wi σ N n I) (hn : n ≤ 100000) (ok : BlkOk X.N X.env.scope scope own) (hg : BlkIs X scope fun Y => PG Y tg (gName j))
    (hwp : ∀ x, wipe ((wipe σ (own.map (·.2))).set j x) (own.map (·.2)) = wipe σ (own.map (·.2)))
    (body : ∀ i x M, i < n → Ex N M → (I i).p x M → BlkIs X scope (fun Y => JTs Y ifs ((wipe σ (own.map (·.2))).set j (some x)) M (bs i)) ∧ (bs i = true → BlkIs X scope fun Y => J Y elt ((wipe σ (own.map (·.2))).set j (some x)) M (E i)))
    (hs : ∀ x, foldedSetIterable iter X.env x = pure x := by intro _; rfl) : J X (.ListComp elt [⟨tg, iter, ifs, 0⟩] scope pos) σ N (mLM N ((List.range n).filter bs) E) :=
  j_of (pe_lc hc hN hi ok hg pTsb pEb hs) (ep_lcM E bs hw hn (fun i x M hi' eM hp C eC => ⟨hwp _, M, Gr.refl eC, evt (body i x M hi' eM hp).1, fun hb => evb ((body i x M hi' eM hp).2 hb)⟩) gm_name)
end
section
variable {X : Cx} {a b : Expr} {σ : L2.St} {N : Hp} {pos : Pos} {k : Nat} {v1 v2 : V}
theorem j_tup2 (h1 : J X a σ N (mIs v1)) (h2 : J X b σ N (mIs v2)) (hs1 : starEach [a, b] X.env = (false, eval a X.env) :: starEach [b] X.env := by rfl) (hs2 : starEach [b] X.env = (false, eval b X.env) :: starEach [] X.env := by rfl) : J X (.Tuple [a, b] k pos) σ N (mT2 v1 v2) :=
  j_of (pe_tup (pa_cons pE (pa_cons pE pa_nil hs2) hs1)) fun C eC Q q => eu_tup (ea_cons h1.ev (ea_cons h2.ev ea_nil)) (by show 2 ≤ 100000; decide) C eC Q fun p H2 hp e2 h => q (.ref p) (upd N p (.tup [v1, v2])) H2 ((Gr.of_ex eC e2).take h hp (fresh_back eC hp)) ⟨p, rfl, upd_same⟩
end
/-! ### {d: True for d in .. if ..}: an ordered set -/
def kD (d : PySem.Str × Int) : List Key := [.inr d.1, .inl d.2]
def kvsOf (acc : List (PySem.Str × Int)) : List (List Key × V) := acc.map fun d => (kD d, .bl true)
theorem kD_inj {a b : PySem.Str × Int} (h : kD a = kD b) : a = b := by
  obtain ⟨a1, a2⟩ := a
  obtain ⟨b1, b2⟩ := b
  unfold kD at h
  injection h with h1 h2
  injection h2 with h2 _
  injection h1 with h1
  injection h2 with h2
  dsimp only at h1 h2
  rw [h1, h2]
theorem putK_addN (acc : List (PySem.Str × Int)) (d : PySem.Str × Int) : putK (kvsOf acc) (kD d) (V.bl true) = kvsOf (addN acc d) := by
  unfold putK addN
  have h : ((kvsOf acc).any fun kv => decide (kv.1 = kD d)) = decide (d ∈ acc) := by
    unfold kvsOf
    rw [List.any_map]
    induction acc with
    | nil => rfl
    | cons x r ih =>
      rw [List.any_cons, ih]
      show (decide (kD x = kD d) || decide (d ∈ r)) = decide (d ∈ x :: r)
      by_cases hx : d = x
      · subst hx; simp
      · have hx' : ¬ kD x = kD d := fun z => hx (kD_inj z).symm
        simp [hx, hx']
  rw [h]
  by_cases hd : d ∈ acc
  · rw [if_pos (decide_eq_true hd), if_pos hd]
    unfold kvsOf
    rw [List.map_map]
    refine List.map_congr_left fun x hx => ?_
    show (if kD x = kD d then (kD x, V.bl true) else (kD x, V.bl true)) = _
    by_cases e : kD x = kD d
    · rw [if_pos e]
    · rw [if_neg e]
  · rw [if_neg (by rw [decide_eq_false hd]; exact Bool.false_ne_true), if_neg hd]
    unfold kvsOf
    rw [List.map_append] <;> rfl
def mDT (N : Hp) (ds : List (PySem.Str × Int)) : MP := ⟨fun v H => ∃ D, v = .ref D ∧ N D = none ∧ H D = some (.dT (kvsOf ds)), fun e ⟨D, h1, h2, h3⟩ => ⟨D, h1, h2, e _ _ h3⟩⟩
theorem addN_len (acc : List (PySem.Str × Int)) (d : PySem.Str × Int) : (addN acc d).length ≤ acc.length + 1 := by
  unfold addN
  split
  · omega
  · rw [List.length_append, List.length_singleton]; omega
theorem ep_dcT {wi : TI} {g : TG} {tt : TT} {tk tv : TE} {vs : List Nat} {σ : L2.St} {N : Hp} {n : Nat} {I : Nat → MP} (f : Nat → PySem.Str × Int) (bs : Nat → Bool) (hw : JI wi σ N n I) (hn : n ≤ 100000)
    (body : ∀ i x M, i < n → Ex N M → (I i).p x M → ∀ C, Ex M C → g x (wipe σ vs) C fun σ2 C2 => wipe σ2 vs = wipe σ vs ∧ ∃ M2, Gr M C M2 C2 ∧ EvT tt σ2 M2 (bs i) ∧ (bs i = true → EvP tk σ2 M2 (mT2 (.str (f i).1) (.int (f i).2)) ∧ ∀ M3, Ex M2 M3 → Ev tv σ2 M3 (.bl true)))
    (gm : ∀ x s C (Q Q' : L2.St → Hp → Prop), (∀ a b, Q a b → Q' a b) → g x s C Q → g x s C Q') : EvP (tCm (fun _ => .dT []) wi g tt (tbD tk tv) vs) σ N (mDT N ((((List.range n).filter bs).map f).foldl addN [])) := fun C eC Q q => hw C eC _ fun Jt N1 C1 gr wk D hD => by
  have hN1 : N1 D = none := fresh_back gr.sub hD
  let acc : Nat → List (PySem.Str × Int) := fun i => (((List.range i).filter bs).map f).foldl addN []
  have accS : ∀ i, acc (i + 1) = if bs i = true then addN (acc i) (f i) else acc i := fun i => by
    show (((List.range (i + 1)).filter bs).map f).foldl addN [] = _
    rw [range_filter]
    by_cases h : bs i = true
    · rw [if_pos h, if_pos h, List.map_append, List.foldl_append] <;> rfl
    · rw [if_neg h, if_neg h]
  have accL : ∀ i, (acc i).length ≤ i := fun i => by
    induction i with
    | zero => exact Nat.le_refl _
    | succ i ih =>
      rw [accS]
      split
      · have := addN_len (acc i) (f i); omega
      · omega
  let Pv : Nat → Hp → Prop := fun i H => ∃ Mi : Hp, Gr N1 C1 Mi H ∧ Mi D = none ∧ H D = some (.dT (kvsOf (acc i)))
  have eN : ∀ i H, Pv i H → Ex N1 H := fun i H ⟨Mi, gi, _⟩ => gi.up.trans gi.sub
  refine ⟨fun i m H => m = n - i ∧ i ≤ n ∧ Pv i H, ⟨n, rfl, Nat.zero_le _, N1, (Gr.refl gr.sub).grow (Ex.new hD), hN1, upd_same⟩, fun i m H ⟨hm, hi, hP⟩ => ?_⟩
  by_cases hin : i < n
  · refine .inr ⟨wk.go i H hin (eN i H hP), fun H' => Pv (i + 1) H', fun H' h => ⟨n - (i + 1), by omega, rfl, by omega, h⟩, fun x H' y => ?_⟩
    obtain ⟨M, gM, hp⟩ := wk.yld i H x H' hin (eN i H hP) y
    obtain ⟨Mi, gi, hMi, hH⟩ := hP
    obtain ⟨g1, e1⟩ := gM.more gi.up gi.sub
    refine gm _ _ _ _ _ (fun σ2 C2 hh => ?_) (body i x (un Mi M) hin ((gr.up.trans gi.up).trans g1.up) ((I i).mono e1 hp) H' g1.sub)
    obtain ⟨hwp, M2, g2, ht, he⟩ := hh
    refine ⟨hwp, ht C2 g2.sub _ fun C3 e3 => ?_⟩
    have g3 : Gr Mi H M2 C3 := g1.trans (g2.grow e3)
    have nt : ∀ xs, HO.dT (kvsOf (acc i)) ≠ .tup xs := fun xs z => by cases z
    have aS := accS i
    cases hb : bs i with
    | true =>
      obtain ⟨hk, hv⟩ := he hb
      refine iteT (hk C3 g3.sub _ fun y N4 C4 g4 py => hv N4 g4.up C4 g4.sub _ fun C5 e5 => ?_)
      obtain ⟨b, rfl, hbt⟩ := py
      have g5 : Gr Mi H N4 C5 := (g3.trans g4).grow e5
      have h4 : N4 D = none := g5.outO hMi hH nt
      refine ⟨upd C5 D (.dT (kvsOf (acc (i + 1)))), ?_, N4, (gi.trans g5).mut hD h4, h4, upd_same⟩
      rw [aS, if_pos hb, ← putK_addN]
      exact DPut.t (k := kD (f i)) (g5.ext D _ hH) (g5.sub b _ hbt) (by
        have := accL i
        show (kvsOf (acc i)).length < sizeLine
        unfold kvsOf
        rw [List.length_map]
        exact sz_lt (by omega))
    | false =>
      refine iteF ⟨M2, gi.trans g3, g3.outO hMi hH nt, ?_⟩
      rw [aS, if_neg (by rw [hb]; exact Bool.false_ne_true)]
      exact g3.ext D _ hH
  · have : i = n := by omega
    subst this
    obtain ⟨Mi, gi, hMi, hH⟩ := hP
    refine .inl ⟨wk.stop H (gi.up.trans gi.sub), q (.ref D) (upd Mi D (.dT (kvsOf (acc i)))) H ((gr.trans gi).take hH (fresh_back gr.ext hD) (fresh_back gr.up hN1)) ⟨D, rfl, fresh_back gr.up hN1, upd_same⟩⟩
/-- its keys as a list -/
theorem addTs {N C : Hp} : ∀ {kvs : List (List Key × V)} {bs : List Addr} {N' C' : Hp}, Gr N C N' C' → IsKeys C' kvs bs → ∃ M, Gr N C M C' ∧ Ex N' M ∧ IsKeys M kvs bs
  | _, _, N', C', g, .nil => ⟨N', g, Ex.refl _, .nil⟩
  | _, _, N', C', g, .cons h r => by
    obtain ⟨g1, e1⟩ := g.addT h
    obtain ⟨M, g2, e2, r2⟩ := addTs g1 r
    exact ⟨M, g2, e1.trans e2, .cons (e2 _ _ upd_same) r2⟩
def dD' (d : PySem.Str × Int) : PyData := .tuple [.str d.1, .int d.2]
theorem keysD {K : PySem.W.Frag} {M : Hp} : ∀ {ds : List (PySem.Str × Int)} {bs : List Addr}, IsKeys M (kvsOf ds) bs → DpAll K M (bs.map V.ref) (ds.map dD)
  | [], _, h => by cases h; exact .nil
  | d :: ds, _, h => by
    cases h with
    | cons h r => exact .cons (.tup (SqT.of h) (.cons (.str _) (.cons (.int _) .nil))) (keysD r)
theorem j_listDT {X : Cx} {e : Expr} {σ : L2.St} {N : Hp} {pos p : Pos} {ds : List (PySem.Str × Int)} (hc : X.calm = true) (he : J X e σ N (mDT N ds)) (hm : X.mg "list" = none) (hg : Gl X "list" := by rfl)
    (hs : starEach [e] X.env = (false, eval e X.env) :: starEach [] X.env := by rfl) (hpl : (backTo pos (starEach [] X.env)).any (·.1) = false := by rfl) : J X (.Call (.Name "list" p) [e] [] pos) σ N (mNL N X.K (· = ds.map dD)) :=
  j_cty1 (call_list_dT hc) hm PyProof.Rows.Boot.«list» he (fun v M g hp => fun C eC Q q => by
    obtain ⟨D, rfl, h1, h2⟩ := hp
    refine ⟨D, kvsOf ds, rfl, .inl (eC _ _ h2), fun l bs hl hk => ?_⟩
    obtain ⟨M2, g2, e2, k2⟩ := addTs (Gr.refl eC) hk
    have hn : M2 l = none := fresh_back g2.sub hl
    exact q (.ref l) (upd M2 l (.lst _)) _ (g2.new hl) ⟨l, _, _, rfl, fresh_back g (fresh_back g2.up hn), upd_same, dps_mono (Ex.new hn) (keysD k2), rfl⟩) hg (hs := hs) (hpl := hpl)
end Gs

set_option Elab.async false
set_option linter.all false
set_option maxRecDepth 100000
set_option maxHeartbeats 4000000
/-! GsDem5: demands_of_version. -/
namespace Gs
open PySem PySem.Spec PyProof.Rows L2 Evl
theorem F2.app {α β : Type} {E : α → β → Prop} {as : List α} {bs : List β} (h : F2 E as bs) {a : α} {b : β} (k : E a b) : F2 E (as ++ [a]) (bs ++ [b]) := F2.snoc k h
/-- places named by a function, as items -/
theorem F2.items {α β : Type} {E : α → β → Prop} {f : Nat → α} : ∀ {is : List Nat} {bs : List β}, F2 (fun i b => E (f i) b) is bs → F2 E (is.map f) bs
  | _, _, .nil => .nil
  | _, _, .cons h r => .cons h r.items
theorem range_map_getD {α β : Type} (f : α → β) (l : List α) (d : α) : (List.range l.length).map (fun i => f (l.getD i d)) = l.map f := by
  have := filter_places (fun _ => true) f l d
  rwa [filter_true, List.filter_eq_self.mpr fun _ _ => rfl] at this
theorem F2.get {α β : Type} {E : α → β → Prop} : ∀ {as : List α} {bs : List β} {i : Nat} {b : β}, F2 E as bs → bs[i]? = some b → ∃ a, as[i]? = some a ∧ E a b
  | _, _, _, _, .nil, e => by simp at e
  | _, _, 0, _, .cons h _, e => by simp at e; subst e; exact ⟨_, rfl, h⟩
  | _, _, i + 1, _, .cons _ r, e => by
    obtain ⟨a, h1, h2⟩ := F2.get (i := i) r (by simpa using e)
    exact ⟨a, by simpa using h1, h2⟩
/-- a list whose items are told one by one -/
theorem ji_listM {α : Type} {σ : L2.St} {N : Hp} {tl : TE} {K : PySem.W.Frag} {l : Addr} {xs : List V} {as : List α} {E : α → MP} (h : Ev tl σ N (.ref l)) (hl : N l = some (.lst xs)) (hf : F2 (fun a x => (E a).p x N) as xs) :
    JI (iList K tl) σ N as.length fun j => ⟨fun x H => ∃ a, as[j]? = some a ∧ (E a).p x H, fun e ⟨a, h1, h2⟩ => ⟨a, h1, (E a).mono e h2⟩⟩ := fun C eC R k =>
  h C eC _ fun H2 e2 => by
    have hn : xs.length = as.length := hf.len
    refine ⟨l, rfl, ⟨xs, SqL.of ((eC.trans e2) _ _ hl)⟩, k _ N H2 (Gr.of_ex eC e2) ⟨fun i H hi e => ?_, fun H e => ⟨xs, SqL.of (e _ _ hl), by omega⟩, fun i H x H' hi e y => ?_⟩⟩
    · exact ⟨xs, xs[i]'(by omega), SqL.of (e _ _ hl), List.getElem?_eq_getElem (by omega)⟩
    · have y' : H' = H ∧ ∀ xs, SqL K H l xs → xs[i]? = some x := y
      obtain ⟨rfl, y2⟩ := y'
      obtain ⟨a, h1, h2⟩ := hf.get (y2 xs (SqL.of (e _ _ hl)))
      exact ⟨N, Gr.refl e, a, h1, h2⟩
theorem dueL_places (l : List (PySem.Str × Int)) : (((List.range l.length).filter fun i => decide (0 < (l.getD i (⟨#[]⟩, 0)).2)).map fun i => l.getD i (⟨#[]⟩, 0)) = l.filter fun d => decide (0 < d.2) := by
  have := filter_places (fun d : PySem.Str × Int => decide (0 < d.2)) (fun d => d) l (⟨#[]⟩, 0)
  rwa [List.map_id'] at this
section
variable {P : Program} {w : World} {K : PySem.W.Frag} {mg : PySem.Str → Option Value} {base : Heap} {Cc : Addr}
def preDemV (K : PySem.W.Frag) (Cc : Addr) (vs : List V) (N : Hp) (P : MP) : Prop := ∃ a W m, ∃ t : Nat, vs = [.ref a.c, .str m, .int (t : Int)] ∧ CatAt K Cc N a W ∧ WOk W ∧ m ∈ W.mods ∧ t < W.cnt m ∧ mle (mNL N K (· = (dueL W m t).map dD)) P
theorem nodup_len {α : Type} [DecidableEq α] : ∀ {l m : List α}, l.Nodup → (∀ x ∈ l, x ∈ m) → l.length ≤ m.length
  | [], _, _, _ => Nat.zero_le _
  | x :: l, m, nd, h => by
    rw [List.nodup_cons] at nd
    have hx := h x (List.mem_cons_self ..)
    have ih := nodup_len (l := l) (m := m.erase x) nd.2 fun y hy => (List.mem_erase_of_ne fun e => nd.1 (by rw [← e]; exact hy)).mpr (h y (List.mem_cons_of_mem _ hy))
    rw [List.length_erase_of_mem hx] at ih
    have := List.length_pos_of_mem hx
    rw [List.length_cons]
    omega
theorem uses_few {W : Wr} (o : WOk W) (m : PySem.Str) : (W.usesOf m).length ≤ 3 := by
  by_cases hm : m ∈ W.mods
  · obtain ⟨ns, hns⟩ := mem_us hm
    rw [o.usesOf hns]
    obtain ⟨nd, hs⟩ := o.ns m ns hns
    have h1 : ns.length ≤ W.mods.length := nodup_len nd fun x hx => (hs x hx).1
    have h2 : W.mods.length ≤ 3 := by unfold Wr.mods; rw [List.length_map]; exact o.few
    omega
  · unfold Wr.usesOf
    have : W.us.find? (fun p => decide (p.1 = m)) = none := List.find?_eq_none.mpr fun p hp => by
      intro h
      exact hm (by rw [← of_decide_eq_true h]; exact List.mem_map.mpr ⟨p, hp, rfl⟩)
    rw [this]
    exact Nat.zero_le _
theorem users_few {W : Wr} (o : WOk W) (m : PySem.Str) : (W.users m).length ≤ 3 := by
  unfold Wr.users
  rw [List.length_map]
  exact Nat.le_trans (List.length_filter_le ..) o.few
theorem ok_demands_of_version (F : DF K mg "demands_of_version" (top 35)) (B : Bt mg) (T : CatC K Cc) (c1 : Mt P w K mg base 2 Cc "uses" (preUses K Cc)) (c2 : Mt P w K mg base 3 Cc "window" (preWindow K Cc)) (c3 : Mt P w K mg base 2 Cc "users" (preUsers K Cc)) (c4 : Cl P w K mg base 4 "first_reaching" (preFirst K Cc)) :
    Cl P w K mg base 5 "demands_of_version" (preDemV K Cc) := by
  refine cl_of (N := ["catalog", "module", "version", "found", "user", "used", "demand"]) (ps := ["catalog", "module", "version"]) F (by decide +kernel) (fun vs M Pm h => ?_) (fun _ _ _ _ _ _ us hl => match us, hl with | [_, _, _], _ => rfl) fun f cdv A outer s C E vs M Pm D hr eM h rt nx => ?_
  · obtain ⟨a, W, m, i, rfl, _⟩ := h; rfl
  obtain ⟨a, W, m, t, rfl, ca, wo, hm, ht, hP⟩ := h
  have hN : (["catalog", "module", "version", "found", "user", "used", "demand"] : List PySem.Str).Nodup := by decide
  obtain ⟨ns, hns⟩ := mem_us hm
  have hu := wo.usesOf hns
  have huf := uses_few wo m
  have huf2 := users_few wo m
  let f1 : PySem.Str → PySem.Str × Int := fun n => (n, ((W.win m n).getD ((t : Int)).toNat (0, none)).1)
  let g1' : Nat → PySem.Str × Int := fun k => f1 ((W.usesOf m).getD k ⟨#[]⟩)
  refine r_setLcM 3 (N := M) (n := (strsD (W.usesOf m)).length) (own := [("used", 5)]) (I := fun j => mR K fun d => (strsD (W.usesOf m))[j]? = some d) (fun k => mT2 (.str (g1' k).1) (.int (g1' k).2)) (fun _ => true) 5 eM rfl hN (pi_list pE)
    (ji_list ((j_meth c1 T.cl hr (jv 0) ca.obj (catF_no a (by decide +kernel)) (ja_cons (jv 1) ja_nil) (P := mNL M K (· = strsD (W.usesOf m))) fun vs M' g p => ?_).imp fun v M' g p => mNL_D p fun es h => h)) (by unfold strsD; rw [List.length_map]; omega)
    (blk_by (N := ["catalog", "module", "version", "found", "user", "used", "demand"]) (sc := defScope (top 35)) (by decide +kernel)) (fun s0 H0 C0 cl fp => pg_name hN rfl (Or.inl rfl)) (fun x => rfl) (fun k x M2 hk eM2 hx => ?_) fun v1 N1 C1 g1 p1 => ?_
  · obtain ⟨x, rfl, rfl⟩ := la1 p
    exact ⟨a, W, m, rfl, ca.mono g, wo, hm, fun v H p => mNL_up (R' := (· = strsD (W.usesOf m))) g p fun _ h => h⟩
  · obtain ⟨d, h1, h2⟩ := hx
    unfold strsD at h1 hk
    rw [List.getElem?_map] at h1
    rw [List.length_map] at hk
    rw [List.getElem?_eq_getElem hk] at h1
    have h1' : PyData.str (W.usesOf m)[k] = d := Option.some.inj h1
    subst h1'
    obtain rfl := dp_str h2
    have e : (W.usesOf m).getD k ⟨#[]⟩ = (W.usesOf m)[k] := by rw [List.getD_eq_getElem?_getD, List.getElem?_eq_getElem hk] <;> rfl
    have hmem : (W.usesOf m)[k] ∈ ns := by rw [← hu]; exact List.getElem_mem hk
    have hlen := wo.len m ns _ hns hmem
    have hq : (W.win m (W.usesOf m)[k])[t]? = some ((W.win m (W.usesOf m)[k])[t]'(by omega)) := List.getElem?_eq_getElem (by omega)
    refine ⟨fun s0 H0 C0 cl fp => jts_nil, fun _ s0 H0 C0 cl fp => ?_⟩
    show J _ _ _ _ (mT2 (.str (f1 ((W.usesOf m).getD k ⟨#[]⟩)).1) (.int (f1 ((W.usesOf m).getD k ⟨#[]⟩)).2))
    rw [e]
    have e2 : (f1 (W.usesOf m)[k]).2 = ((W.win m (W.usesOf m)[k])[t]'(by omega)).1 := by
      show ((W.win m (W.usesOf m)[k]).getD ((t : Int)).toNat (0, none)).1 = _
      have et : ((t : Int)).toNat = t := by omega
      rw [et, List.getD_eq_getElem?_getD, hq] <;> rfl
    rw [e2]
    generalize (W.win m (W.usesOf m)[k])[t]'(by omega) = q at hq
    have ca2 := ca.mono eM2
    refine j_tup2 (jv 5) (J.int (j_ixT (ds := [.int q.1, hD q.2]) (j_meth c2 T.cl hr (jv 0) ca2.obj (catF_no a (by decide +kernel)) (ja_cons (jv 1) (ja_cons (jv 5) (ja_cons (jv 2) ja_nil))) (P := mD K (wD q)) fun vs M' g p => ?_) j_int rfl))
    obtain ⟨x, y, z, rfl, rfl, rfl, rfl⟩ := la3 p
    exact ⟨a, W, m, ns, _, q, t, rfl, ca2.mono g, wo, hns, hmem, ht, hq, rfl⟩
  obtain ⟨l, xs, M1, rfl, gl, hl1, hl0, hlC, hfx⟩ := outM g1 p1 fun _ => noLst_T2 _ _
  have ca1 := ca.mono gl.up
  rw [filter_true] at hfx
  have hfx2 : F2 (fun d x => (mT2 (.str d.1) (.int d.2)).p x M1) ((W.usesOf m).map f1) xs := by
    have := F2.items (f := g1') (E := fun d x => (mT2 (.str d.1) (.int d.2)).p x M1) hfx
    have e : (List.range (strsD (W.usesOf m)).length).map g1' = (W.usesOf m).map f1 := by
      unfold strsD
      rw [List.length_map]
      exact range_map_getD f1 (W.usesOf m) ⟨#[]⟩
    rwa [e] at this
  let f2 : PySem.Str → PySem.Str × Int := fun u => (u, (firstR (W.win u m) t : Int))
  refine r_for (N := M1) (n := (strsD (W.users m)).length) (I := fun j => mR K fun d => (strsD (W.users m))[j]? = some d) (pi_list pE) (ji_list ((j_meth c3 T.cl hr (jv 0) ca1.obj (catF_no a (by decide +kernel)) (ja_cons (jv 1) ja_nil) (P := mNL M1 K (· = strsD (W.users m))) fun vs M' g p => ?_).imp fun v M' g p => mNL_D p fun es h => h)) gl.sub (pg_name (i := 4) hN rfl (Or.inl rfl)) PassesOwn.never rfl
    (fun N2 i σ C2 => ∃ Mi ys o, Gr M C Mi C2 ∧ Ex N2 Mi ∧ Mi l = none ∧ C l = none ∧ C2 l = some (.lst ys) ∧ F2 (fun d x => (mT2 (.str d.1) (.int d.2)).p x Mi) ((W.usesOf m).map f1 ++ ((W.users m).take i).map f2) ys ∧ σ = [some (.ref a.c), some (.str m), some (.int (t : Int)), some (.ref l), o, none, none])
    (fun N2 C2 g2 => ?_) (fun N2 i σ C2 ⟨Mi, ys, o, h1, h2, _⟩ => h2.trans h1.sub) (fun N2 i x σ C2 M2 C3 e2 hi hP2 gM hx => ?_) fun N2 σ C2 e2 hP2 => ?_
  · obtain ⟨x, rfl, rfl⟩ := la1 p
    exact ⟨a, W, m, rfl, ca1.mono g, wo, hm, fun v H p => mNL_up (R' := (· = strsD (W.users m))) g p fun _ h => h⟩
  · have gg := gl.trans g2
    have hC : C l = none := by
      obtain ⟨l', xs', h1, h2, h3, h4⟩ := p1
      cases h1
      rcases g1.dom l _ h3 with ⟨u, hu⟩ | hn | ⟨zs, hz⟩
      · rw [hl0] at hu; cases hu
      · exact hn
      · cases hz
    refine ⟨N2, xs, none, gg, Ex.refl _, g2.out hl1 hlC, hC, g2.ext _ _ hlC, ?_, rfl⟩
    rw [List.take_zero, List.map_nil, List.append_nil]
    exact hfx2.mono2 fun d x h => (mT2 _ _).mono g2.up h
  · obtain ⟨Mi, ys, o, gi, eNi, hMl, hCl, hC2, hf, rfl⟩ := hP2
    obtain ⟨gm2, em2⟩ := gM.more eNi gi.sub
    obtain ⟨d, hd1, hd2⟩ := hx
    unfold strsD at hd1 hi
    rw [List.length_map] at hi
    rw [List.getElem?_map, List.getElem?_eq_getElem hi] at hd1
    have hd1' : PyData.str (W.users m)[i] = d := Option.some.inj hd1
    subst hd1'
    obtain rfl := dp_str hd2
    have g3 := gi.trans gm2
    have hl3 : (un Mi M2) l = none := gm2.out hMl hC2
    have hC3 : C3 l = some (.lst ys) := gm2.ext _ _ hC2
    obtain ⟨ns2, hns2, hmn⟩ := mem_users (List.getElem_mem hi)
    have ca3 := ca.mono g3.up
    have hyl : ys.length ≤ 20 := by
      rw [hf.len, List.length_append, List.length_map, List.length_map, List.length_take]
      omega
    refine r_app (l := l) (xs := ys) (N := un Mi M2) (jv 3) (j_tup2 (jv 4) (j_call c4 hr (ja_cons (jv 0) (ja_cons (jv 4) (ja_cons (jv 1) (ja_cons (jv 2) ja_nil)))) (P := mIs (.int (firstR (W.win (W.users m)[i] m) t : Nat))) fun vs M' g p => ?_)) g3.sub hl3 hC3 (by omega) fun v N' C' g h1 p => ?_
    · obtain ⟨x, y, z, y2, rfl, rfl, rfl, rfl, rfl⟩ := la4 p
      exact ⟨a, W, _, ns2, m, t, rfl, ca3.mono g, wo, hns2, hmn, rfl⟩
    · have g4 := g3.trans g
      refine r_nil ⟨N', ys ++ [v], some (.str (W.users m)[i]), g4.mut hCl h1, (eNi.trans gm2.up).trans g.up, h1, hCl, upd_same, ?_, rfl⟩
      have et : (W.users m).take (i + 1) = (W.users m).take i ++ [(W.users m)[i]] := by rw [List.take_succ, List.getElem?_eq_getElem hi] <;> rfl
      rw [et, List.map_append, ← List.append_assoc]
      exact (hf.mono2 fun d x h => (mT2 _ _).mono (gm2.up.trans g.up) h).app p
  · obtain ⟨Mi, ys, o, gi, eNi, hMl, hCl, hC2, hf, rfl⟩ := hP2
    have efound : (W.usesOf m).map f1 ++ ((W.users m).take (strsD (W.users m)).length).map f2 = foundL W m t := by
      unfold strsD foundL
      rw [List.length_map, List.take_length]
    rw [efound] at hf
    -- the list is counted in
    have gi2 : Gr M C (upd Mi l (.lst ys)) C2 := gi.take hC2 hCl (fresh_back gi.up hMl)
    have hf2 := hf.mono2 fun d x h => (mT2 (.str d.1) (.int d.2)).mono (Ex.new (o := .lst ys) hMl) h
    refine r_ret (N := upd Mi l (.lst ys)) (j_listDT (ds := dueL W m t) rfl ?_ B.list) gi2.sub fun v N' C' g p => rt v N' C' (gi2.trans g) (hP _ _ (mNL_up (R' := (· = (dueL W m t).map dD)) gi2.up p fun _ h => h))
    have hfl : (foundL W m t).length ≤ 20 := by
      unfold foundL
      rw [List.length_append, List.length_map, List.length_map]
      omega
    have edue : dueL W m t = (((List.range (foundL W m t).length).filter fun i => decide (0 < ((foundL W m t).getD i (⟨#[]⟩, 0)).2)).map fun i => (foundL W m t).getD i (⟨#[]⟩, 0)).foldl addN [] := by
      rw [dueL_places]
      rfl
    rw [edue]
    refine j_of (pe_dcT (own := [("demand", 6)]) (hu_of hr) rfl hN (pi_list pE) (blk_by (N := ["catalog", "module", "version", "found", "user", "used", "demand"]) (sc := defScope (top 35)) (by decide +kernel)) (fun s0 H0 C0 cl fp => pg_name (i := 6) hN rfl (Or.inl rfl)) pTsb pEb pEb) ?_
    refine ep_dcT (fun i => (foundL W m t).getD i (⟨#[]⟩, 0)) _ (ji_listM (as := foundL W m t) (E := fun d => mT2 (.str d.1) (.int d.2)) (J.ev (jv 3)) upd_same hf2) (by omega) (fun i x M2 hi eM2 hx C0 eC0 => ?_) gm_name
    obtain ⟨d, hd, b, rfl, hb⟩ := hx
    have e : (foundL W m t).getD i (⟨#[]⟩, 0) = d := by rw [List.getD_eq_getElem?_getD, hd] <;> rfl
    have hdp : Dp K M2 (.ref b) (dD d) := .tup (SqT.of hb) (.cons (.str _) (.cons (.int _) .nil))
    refine ⟨rfl, M2, Gr.refl eC0, evt fun s0 H0 C1 cl fp => jts_one ?_, fun _ => ⟨evb fun s0 H0 C1 cl fp => ?_, fun M3 e3 => ev_ep (evb fun s0 H0 C1 cl fp => j_bl)⟩⟩
    · show JT _ _ _ _ (decide (0 < ((foundL W m t).getD i (⟨#[]⟩, 0)).2))
      rw [e]
      exact jt_cmp op_gt (J.int (j_ixT (ds := [.str d.1, .int d.2]) (j_var 6 (P := mD K (dD d)) hdp) j_int rfl)) j_int rv_I0
    · show J _ _ _ _ (mT2 (.str ((foundL W m t).getD i (⟨#[]⟩, 0)).1) (.int ((foundL W m t).getD i (⟨#[]⟩, 0)).2))
      rw [e]
      exact j_var 6 ⟨b, rfl, hb⟩
end
end Gs

set_option Elab.async false
set_option linter.all false
set_option maxRecDepth 100000
set_option maxHeartbeats 4000000
/-! GsFol: CannotMeet, following. -/
namespace Gs
open PySem PySem.Spec PyProof.Rows L2 Evl
structure ExT (K : PySem.W.Frag) (mg : PySem.Str → Option Value) (CM CR : Addr) : Prop where
  rex : RexC K CM
  gM : mg "CannotMeet" = some (.ref CM)
  gR : mg "Refused" = some (.ref CR)
  ini : ∃ (fI : Addr) (fd : FuncData), L2.Fun K "__init__" "CannotMeet.__init__" (inClass (top 15) 0) fI fd ∧ PySem.W.findIn K (.ref CM) "__init__" = some (some (.ref fI)) ∧ PySem.W.typeIn K (.ref fI) = some (.type "function")
  rd : PySem.W.readsIn K CR (.type "type") = true
  ga : PySem.W.specialIn K (.ref CR) "__getattribute__" = some (some (.builtin "type.__getattribute__"))
  vV : PySem.W.findCls K (.ref CR) (.type "type") "__init__" = some (.val (.builtin "RuntimeError.__init__"))
  n1 : PySem.W.findIn K (.ref CM) "module" = some none
  n2 : PySem.W.findIn K (.ref CM) "version" = some none
  xm : PySem.W.exmOne K (.ref CM) (.ref CM) = some true
  ex : L2.ExcC K CM
  xf : XfC K CM
  kit : PySem.W.kitOne K (.ref CM) (.ref CR) = some true
section
variable {X : Cx} {o e : Expr} {es : List Expr} {rest : List Stmt} {D : Ends} {σ : L2.St} {C : Hp} {L : ML} {f x : PySem.Str} {y : V} {a B : Addr} {p p' p1 p2 pos pos2 : Pos}
theorem r_rst (he : J X e σ C (mIs y)) (ho : J X o σ C (mIs (.ref a)))
    (k : ∀ C1, Ex C C1 → ∃ C0 : Addr, RexC X.K C0 ∧ PySem.W.findIn X.K (.ref C0) f = some none ∧ ((C1 a = some (exo a C0 none) ∧ ∀ dx, C1 dx = none → dx ≠ a → tR X rest D σ (upd (upd C1 dx (exd dx [(f, y)])) a (exo a C0 (some dx)))) ∨
      ∃ (dx : Addr) (fs : List (PySem.Str × V)), C1 a = some (exo a C0 (some dx)) ∧ C1 dx = some (exd dx fs) ∧ fs.length ≤ 900 ∧ tR X rest D σ (upd C1 dx (exd dx ((f, y) :: fs)))))
    (hs : swapsWith e (some (.Attribute o f p')) pos.line X.env = pure false := by rfl) : tR X (.Assign [.Attribute o f p'] e pos :: rest) D σ C :=
  r_of (ps_rst pE pE hs) (he.ev C (Ex.refl C) _ fun C1 e1 => ho.ev C1 e1 _ fun C2 e2 => by
    obtain ⟨C0, h1, h2, h3⟩ := k C2 (e1.trans e2)
    exact ⟨a, C0, rfl, h1, h2, h3⟩)
theorem r_rtinit {pl : Sem Bool} (ha : JA X (e :: es) σ C L) (hm : X.mg x = some (.ref B)) (rd : PySem.W.readsIn X.K B (.type "type") = true) (ga : PySem.W.specialIn X.K (.ref B) "__getattribute__" = some (some (.builtin "type.__getattribute__")))
    (vV : PySem.W.findCls X.K (.ref B) (.type "type") "__init__" = some (.val (.builtin "RuntimeError.__init__")))
    (k : ∀ vs N' C1, Gr C C N' C1 → L.p vs N' → ∃ (a C0 : Addr) (ws : List V), vs = .ref a :: ws ∧ ws.length ≤ 1000 ∧ RexC X.K C0 ∧ C1 a = some (exo a C0 none) ∧ tR X rest D σ C1) (hg : Gl X x := by rfl) (hdb : (x == ("__debug__" : PySem.Str)) = false := by decide)
    (hc : eval (.Call (.Attribute (.Name x p1) "__init__" p2) (e :: es) [] pos) X.env = (do
      let ov ← eval (.Name x p1) X.env
      standAt p2.atName
      let (f, first) ← holding [ov] (getMethod ov "__init__" pl)
      callWith pos f first (backTo pos (starEach (e :: es) X.env)) (backToKw pos (keywordEach [] X.env))) := by rfl)
    (he : starEach (e :: es) X.env = (false, eval e X.env) :: starEach es X.env := by rfl) (hpl : (backTo pos (starEach es X.env)).any (·.1) = false := by rfl)
    (hs : swapsWith (.Call (.Attribute (.Name x p1) "__init__" p2) (e :: es) [] pos) none pos2.line X.env = pure false := by rfl) : tR X (.Expr (.Call (.Attribute (.Name x p1) "__init__" p2) (e :: es) [] pos) pos2 :: rest) D σ C :=
  r_of (ps_expr (pe_rtinit hg hm rd ga vV pA hdb hc he hpl) hs) (ha C (Ex.refl C) _ fun vs N' C1 g p => by
    obtain ⟨a, C0, ws, h1, h2, h3, h4, h5⟩ := k vs N' C1 g p
    exact ⟨a, C0, ws, h1, h2, h3, h4, h5⟩)
theorem r_raise {W : WX} {n : Nat} {C0 : Addr} {sp : Sp} (hc : X.calm = true) (tk : Takes X W) (hm : PMk X (.Call (.Name x p) (e :: es) [] pos) (tMkO C0 sp [] (tA X (e :: es)))) (ha : JA X (e :: es) σ C L)
    (k : ∀ vs N' C1, Gr C C N' C1 → L.p vs N' → vs.length ≤ 1000 ∧ ∀ b, C1 b = none → sp (.ref b :: (vs ++ [])) (upd C1 b (exo b C0 none))
      (fun v H2 => v = .non ∧ ∃ (d : Addr) (fs : List (PySem.Str × V)), H2 b = some (exo b C0 (some d)) ∧ H2 d = some (exd d fs) ∧ C1 d = none ∧ W (.ref C0) (some d) σ (upd (L2.del H2 b) d (.xd fs))) (fun _ _ _ => False)) :
    tR X (.Raise (some (.Call (.Name x p) (e :: es) [] pos)) none pos2 :: rest) D σ C :=
  r_of (ps_raise hc tk hm) (ha C (Ex.refl C) _ fun vs N' C1 g p => k vs N' C1 g p)
end
def cmF (v1 v2 : V) : List (PySem.Str × V) := [("version", v2), ("module", v1)]
/-- CannotMeet.__init__ -/
def spCM (CM : Addr) : Sp := fun vs C Q _ => ∃ (e : Addr) (v1 v2 : V), vs = [.ref e, v1, v2] ∧ C e = some (exo e CM none) ∧
  ∀ (C' : Hp) (d : Addr), C d = none → d ≠ e → C' e = some (exo e CM (some d)) → C' d = some (exd d (cmF v1 v2)) → (∀ b o, b ≠ e → C b = some o → C' b = some o) → Q .non C'
section
variable {P : Program} {w : World} {K : PySem.W.Frag} {mg : PySem.Str → Option Value} {base : Heap} {Cc CM CR : Addr}
theorem ok_cm {fI : Addr} {fd : FuncData} (F : L2.Fun K "__init__" "CannotMeet.__init__" (inClass (top 15) 0) fI fd) (T : ExT K mg CM CR) : FnOk P w K mg base L2.CX0 1 fI fd ["self", "module", "version"] (spCM CM) := by
  refine fnok_of (N := ["self", "module", "version"]) F (by decide +kernel) (fun vs C Q E h => ?_) fun cdv A outer s C E vs Q hr h => ?_
  · obtain ⟨e, v1, v2, rfl, _⟩ := h; rfl
  obtain ⟨e, v1, v2, rfl, he, q⟩ := h
  refine r_rtinit (ja_cons (jv 0) (ja_cons (jv 1) (ja_cons (jv 2) ja_nil))) T.gR T.rd T.ga T.vV fun vs N' C1 g p => ?_
  obtain ⟨x, y, z, rfl, rfl, hy, hz⟩ := la3 p
  have hy' : y = v1 := hy
  have hz' : z = v2 := hz
  subst hy' hz'
  have he1 : C1 e = some (exo e CM none) := g.ext _ _ he
  refine ⟨e, CM, [y, z], rfl, (by show 2 ≤ 1000; decide), T.rex, he1, ?_⟩
  refine r_rst (y := y) (a := e) (jv 1) (jv 0) fun C3 e3 => ⟨CM, T.rex, T.n1, .inl ⟨e3 _ _ he1, fun dx hdx hne => ?_⟩⟩
  generalize hC4 : upd (upd C3 dx (exd dx [("module", y)])) e (exo e CM (some dx)) = C4
  refine r_rst (y := z) (a := e) (jv 2) (jv 0) fun C6 e6 => ⟨CM, T.rex, T.n2, .inr ⟨dx, [("module", y)], e6 _ _ (by rw [← hC4]; exact upd_same), e6 _ _ (by rw [← hC4, upd_ne hne]; exact upd_same), (by show 1 ≤ 900; decide), ?_⟩⟩
  have hd0 : C dx = none := fresh_back (g.ext.trans e3) hdx
  refine r_nil (q _ dx hd0 hne ?_ upd_same fun b o hb hbo => ?_)
  · rw [upd_ne (Ne.symm hne)]
    exact e6 _ _ (by rw [← hC4]; exact upd_same)
  · have hbd : b ≠ dx := fun z => by rw [z, hd0] at hbo; cases hbo
    rw [upd_ne hbd]
    refine e6 _ _ ?_
    rw [← hC4, upd_ne hb, upd_ne hbd]
    exact (g.ext.trans e3) _ _ hbo
/-- following: the list of what follows, or CannotMeet with the items of the demand -/
def spFol (K : PySem.W.Frag) (Cc CM : Addr) : Sp := fun vs C Q E => ∃ (N : Hp) (a : CatA) (W : Wr) (v : V) (m : PySem.Str) (i : Int), vs = [.ref a.c, v] ∧ Ex N C ∧ CatAt K Cc N a W ∧ WOk W ∧ m ∈ W.mods ∧ Dp K N v (dD (m, i)) ∧ 0 ≤ i ∧
  (∀ t, sett W m i = some t → ∀ v' N' C', Gr N C N' C' → (mNL N K (· = (dueL W m t).map dD)).p v' N' → Q v' C') ∧
  (sett W m i = none → ∀ d C', Ex C C' → C' d = some (.xd (cmF (.str m) (.int i))) → E (.ref CM) (some d) C')
theorem sett_some {W : Wr} {m : PySem.Str} {i t : Int} (h : sett W m i = some t) : ∃ k : Nat, t = k ∧ k < W.cnt m := by
  unfold sett at h
  cases e : (W.there m).filter (fun x => decide (i ≤ x)) with
  | nil => rw [e] at h; cases h
  | cons x r =>
    rw [e] at h
    have h' : some x = some t := h
    cases h'
    obtain ⟨h1, _⟩ := head_least (there_sorted W m) e
    obtain ⟨k, h1, h2, _⟩ := there_mem.mp h1
    exact ⟨k, h1, h2⟩
theorem ok_following {f : Addr} {fd : FuncData} (F : L2.Fun K "following" "following" (top 36) f fd) (T : ExT K mg CM CR) (c1 : Cl P w K mg base 5 "settled" (preSett K Cc)) (c2 : Cl P w K mg base 5 "demands_of_version" (preDemV K Cc)) :
    FnOk P w K mg base (L2.CX P w) 6 f fd ["catalog", "demand"] (spFol K Cc CM) := by
  refine F.okX (N := ["catalog", "demand", "version", "module", "wanted"]) (C8.fnScope_by (by decide +kernel)) (fun vs C Q E h => ?_) fun cdv A outer s C vs Q E hr h => ⟨_, pR, ?_⟩
  · obtain ⟨N, a, W, v, m, i, rfl, _⟩ := h; rfl
  obtain ⟨N, a, W, v, m, i, rfl, eN, ca, wo, hm, hd, hi, qs, qn⟩ := h
  have hN : (["catalog", "demand", "version", "module", "wanted"] : List PySem.Str).Nodup := by decide
  refine r_set 2 (N := N) (P := mIs (hV (sett W m i))) (j_call c1 hr (ja_cons (jv 0) (ja_cons (j_var 1 (P := mD K (dD (m, i))) hd) ja_nil)) fun vs M' g p => ?_) eN hN fun v1 N1 C1 g1 p1 => ?_
  · obtain ⟨x, y, rfl, rfl, hy⟩ := la2 p
    exact ⟨a, W, y, m, i, rfl, ca.mono g, wo, hm, hy, hi, rfl⟩
  have p1' : v1 = hV (sett W m i) := p1
  subst p1'
  refine r_asg (N := N1) (j_var 1 (P := mD K (dD (m, i))) (dp_mono g1.up hd)) g1.sub (pg_tup rfl (pgs_cons (pg_name (i := 3) hN rfl (Or.inl rfl)) (pgs_cons (pg_name (i := 4) hN rfl (Or.inl rfl)) pgs_nil))) fun v' N2 C2 gr hp => Gs.g2 hp gr.sub fun v1 v2 h1 h2 => ?_
  obtain rfl := dp_str h1
  obtain rfl := dp_int h2
  have g2 := g1.trans gr
  have ca2 := ca.mono g2.up
  cases e : sett W m i with
  | none =>
    refine r_take (N := N2) (jt_cmp op_isN (jv 2) j_non (by rw [show V.bl true = V.bl (decide (hV none = V.non)) from rfl]; exact rv_isN)) g2.sub fun C3 e3 => ?_
    obtain ⟨fI, fdI, FI, hI, tI⟩ := T.ini
    have bI := FI.binds (ps := ["self", "module", "version"]) fun _ _ _ _ _ _ us hl => match us, hl with | [_, _, _], _ => rfl
    refine r_raise (W := fun cls d _ H => E cls d H) (n := 0) rfl (takes_of rfl rfl rfl rfl) (pmk_rex T.rex hI tI (ok_cm FI T) (hr.mono (by decide)) bI pass0 rfl T.gM pA) (ja_cons (jv 3) (ja_cons (jv 4) ja_nil)) fun vs N' C4 g p => ?_
    obtain ⟨x, y, rfl, rfl, rfl⟩ := la2 p
    refine ⟨(by show 2 ≤ 1000; decide), fun b hb => ⟨b, .str m, .int i, rfl, upd_same, fun C5 d hd hne h1 h2 h3 => ⟨rfl, d, cmF (.str m) (.int i), h1, h2, ?_, ?_⟩⟩⟩
    · rw [← upd_ne (H := C4) (o := exo b CM none) hne]; exact hd
    · refine qn e d _ (fun c o hc => ?_) upd_same
      have hc4 : C4 c = some o := (g2.ext.trans (e3.trans g.ext)) _ _ hc
      have hcb : c ≠ b := fun z => by rw [z, hb] at hc4; cases hc4
      have hcd : c ≠ d := fun z => by
        rw [← z, upd_ne hcb, hc4] at hd
        cases hd
      rw [upd_ne hcd, del_ne hcb]
      exact h3 c o hcb (by rw [upd_ne hcb]; exact hc4)
  | some t =>
    obtain ⟨k, rfl, hk⟩ := sett_some e
    refine r_skip (N := N2) (jt_cmp op_isN (jv 2) j_non (by rw [show V.bl false = V.bl (decide (hV (some (k : Int)) = V.non)) from rfl]; exact rv_isN)) g2.sub fun C3 e3 => ?_
    refine r_ret (N := N2) (P := mNL N K (· = (dueL W m k).map dD)) (j_call c2 hr (ja_cons (jv 0) (ja_cons (jv 3) (ja_cons (jv 2) ja_nil))) fun vs M' g p => ?_) (g2.sub.trans e3) fun v N' C' g p => qs _ e v N' C' ((g2.grow e3).trans g) p
    obtain ⟨x, y, z, rfl, rfl, rfl, rfl⟩ := la3 p
    exact ⟨a, W, m, k, rfl, ca2.mono g, wo, hm, hk, fun v H p => mNL_up (R' := (· = (dueL W m k).map dD)) (g2.up.trans g) p fun _ h => h⟩
end
end Gs

set_option Elab.async false
set_option linter.all false
set_option maxRecDepth 100000
set_option maxHeartbeats 4000000
/-! GsTold: _law_told. -/
namespace Gs
open PySem PySem.Spec PyProof.Rows L2 Evl
def tbT (X : Cx) (body : List Stmt) : WX → TS := fun W D σ H => ∀ (pn : List (Addr × Obj)) (xe : Value → Shared → Prop), Takes (X.tr pn xe) W → PassesOwn (model X.prog X.w) X.A X.env xe → tR (X.tr pn xe) body D σ H
def tsT (X : Cx) (suite : List Stmt) : Addr → Value → Option Addr → TS := fun a cls d D σ H => ∀ (oe : Obj) (pn : List (Addr × Obj)), Zc cls d oe → (∃ vs, oe.data = .fields vs) → tR (X.suite a ((a, oe) :: pn)) suite D σ H
theorem r_try {X : Cx} {x n : PySem.Str} {c : Value} {body suite rest : List Stmt} {b₀ : Stmt} {np pos pos' : Pos} {Wout : WX} {D : Ends} {σ : L2.St} {C : Hp} (i : Nat) (hs : X.stack = X.env :: X.outer) (hf : X.env.frame = some X.env.locals) (hN : X.N.Nodup) (hi : X.N[i]? = some n) (hln : X.env.kindOf n = some .local) (hc : Names X x c) (tk : Takes X Wout)
    (h : tbT X body (wAs X.K c i (tsT X (b₀ :: suite)) Wout { D with nx := tR X rest D }) { D with nx := tR X rest D } σ C) : tR X (.Try body [.ExceptHandler (some (.Name x np)) (some n) (b₀ :: suite) pos'] [] [] pos :: rest) D σ C :=
  r_of (ps_try_as (tb := tbT X body) (ts := tsT X (b₀ :: suite)) hs hf hN hi hln hc tk (fun W pn xe tk po => ⟨fun pins s σ H D I h => h pn xe tk po pins s I⟩) (fun a oe cls d pn hz hf => ⟨fun pins s σ H D I h => h oe pn hz hf pins s I⟩)) h
/-- name = ['..', f(e, ..)], f may raise -/
theorem r_setSC {X : Cx} {rest : List Stmt} {D : Ends} {σ : L2.St} {N C : Hp} {L : ML} {W : WX} {k : Nat} {f : Addr} {fd : FuncData} {ps : List PySem.Str} {sp : Sp} {z x fx : PySem.Str} {e : Expr} {es : List Expr} {j : Nat} {p0 p1 p2 p3 pos pos' : Pos} (i : Nat) (F : FnOk X.prog X.w X.K X.mg X.base (L2.CX X.prog X.w) k f fd ps sp) (hr : Room k X.A) (hm : X.mg fx = some (.ref f)) (hk : PySem.W.keepIn X.K (.ref f) = true) (hb : Binds X.K fd ps [])
    (tk : Takes X W) (hN : X.N.Nodup) (ha : JA X (e :: es) σ N L) (eN : Ex N C) (hq : ∀ vs N' C', Gr N C N' C' → L.p vs N' → sp vs C' (fun v C2 => ([V.str z, v] : List V).length ≤ sizeLine ∧ ∀ p, C2 p = none → tR X rest D (σ.set i (some (.ref p))) (upd C2 p (.lst [.str z, v]))) (fun cls d H => W cls d σ H))
    (hg : Gl X fx := by rfl) (hi : X.N[i]? = some x := by rfl) (hx : Loc X.env.scope x := by first | exact Or.inl rfl | exact Or.inr rfl) (hdb : (fx == ("__debug__" : PySem.Str)) = false := by decide) (he : starEach (e :: es) X.env = (false, eval e X.env) :: starEach es X.env := by rfl)
    (hpl : (backTo p2 (starEach es X.env)).any (·.1) = false := by rfl) (hs1 : starEach [.Constant (.str z) j p0, .Call (.Name fx p1) (e :: es) [] p2] X.env = (false, eval (.Constant (.str z) j p0) X.env) :: starEach [.Call (.Name fx p1) (e :: es) [] p2] X.env := by rfl)
    (hs2 : starEach [.Call (.Name fx p1) (e :: es) [] p2] X.env = (false, eval (.Call (.Name fx p1) (e :: es) [] p2) X.env) :: starEach [] X.env := by rfl)
    (hs : swapsWith (.List [.Constant (.str z) j p0, .Call (.Name fx p1) (e :: es) [] p2] p3) (some (.Name x pos')) pos.line X.env = pure false := by rfl) (hf : X.fn x = true ∨ X.env.scope.names.lookup x = some .local := by first | exact .inl rfl | exact .inr rfl) :
    tR X (.Assign [.Name x pos'] (.List [.Constant (.str z) j p0, .Call (.Name fx p1) (e :: es) [] p2] p3) pos :: rest) D σ C :=
  r_of (ps_set hN hi hx (pe_lst (pa_cons pe_str (pa_cons (pe_callSD F hr hg hm hk hb .nil (fun σ => passAt tk σ) pA hdb he hpl) pa_nil hs2) hs1)) hs hf) (ha C eN _ fun vs N' C' g p => by
    show sp (vs ++ []) C' _ _
    rw [List.append_nil]
    exact hq vs N' C' g p)
/-- a new list of these values, exactly -/
def mLX (N : Hp) (xs : List V) : MP := ⟨fun v H => ∃ l, v = .ref l ∧ N l = none ∧ H l = some (.lst xs), fun e ⟨l, h1, h2, h3⟩ => ⟨l, h1, h2, e _ _ h3⟩⟩
theorem j_lstX {X : Cx} {es : List Expr} {σ : L2.St} {N : Hp} {pos : Pos} {xs : List V} (h : EvA (tA X es) σ N xs) (hl : xs.length ≤ 100000) : J X (.List es pos) σ N (mLX N xs) := j_of (pe_lst pA) fun C eC Q q => el_lst h hl C eC Q fun p H2 hp e2 hh => q (.ref p) (upd N p (.lst xs)) H2 ((Gr.of_ex eC e2).take hh hp (fresh_back eC hp)) ⟨p, rfl, fresh_back eC hp, upd_same⟩
theorem ev_as0 {X : Cx} {σ : L2.St} {N : Hp} : EvA (tA X []) σ N [] := fun C _ Q q => le_A pa_nil (q C (Ex.refl C))
theorem ev_as {X : Cx} {e : Expr} {es : List Expr} {σ : L2.St} {N : Hp} {v : V} {vs : List V} (h : J X e σ N (mIs v)) (r : EvA (tA X es) σ N vs) (hs : starEach (e :: es) X.env = (false, eval e X.env) :: starEach es X.env := by rfl) : EvA (tA X (e :: es)) σ N (v :: vs) := fun C eC Q q => le_A (pa_cons pE pA hs) (ea_cons h.ev r C eC Q q)
theorem cmF_m (v1 v2 : V) : (cmF v1 v2).lookup ("module" : PySem.Str) = some v1 := (lk_past (by decide +kernel)).trans lk_here
theorem cmF_v (v1 v2 : V) : (cmF v1 v2).lookup ("version" : PySem.Str) = some v2 := lk_here
/-- what _law_told gives -/
def mTold (N : Hp) (K : PySem.W.Frag) (W : Wr) (m : PySem.Str) (i : Int) : MP := ⟨fun v H => ∃ l, v = .ref l ∧ N l = none ∧ match sett W m i with
  | some t => ∃ l2 xs, H l = some (.lst [.str "done", .ref l2]) ∧ N l2 = none ∧ l ≠ l2 ∧ H l2 = some (.lst xs) ∧ DpAll K H xs ((dueL W m t).map dD)
  | none => H l = some (.lst [.str "cannot", .str m, .int i]), fun e ⟨l, h1, h2, h3⟩ => ⟨l, h1, h2, by
    cases hs : sett W m i with
    | some t =>
      rw [hs] at h3
      obtain ⟨l2, xs, h4, h5, h6, h7, h8⟩ := h3
      exact ⟨l2, xs, e _ _ h4, h5, h6, e _ _ h7, dps_mono e h8⟩
    | none =>
      rw [hs] at h3
      exact e _ _ h3⟩⟩
section
variable {P : Program} {w : World} {K : PySem.W.Frag} {mg : PySem.Str → Option Value} {base : Heap} {Cc CM CR : Addr}
def preTold (K : PySem.W.Frag) (Cc : Addr) (vs : List V) (N : Hp) (P : MP) : Prop := ∃ a W v m i, vs = [.ref a.c, v] ∧ CatAt K Cc N a W ∧ WOk W ∧ m ∈ W.mods ∧ Dp K N v (dD (m, i)) ∧ 0 ≤ i ∧ mle (mTold N K W m i) P
theorem ok_told (F : DF K mg "_law_told" (top 63)) (B : Bt mg) (T : ExT K mg CM CR) {f2 : Addr} {fd2 : FuncData} (F2 : FnOk P w K mg base (L2.CX P w) 6 f2 fd2 ["catalog", "demand"] (spFol K Cc CM)) (m2 : mg "following" = some (.ref f2)) (k2 : PySem.W.keepIn K (.ref f2) = true) (b2 : Binds K fd2 ["catalog", "demand"] []) :
    Cl P w K mg base 7 "_law_told" (preTold K Cc) := by
  refine cl_of (N := ["_law_catalog", "_law_demand", "_law_told_here", "e"]) (ps := ["_law_catalog", "_law_demand"]) F (by decide +kernel) (fun vs M Pm h => ?_) (fun _ _ _ _ _ _ us hl => match us, hl with | [_, _], _ => rfl) fun f cdv A outer s C E vs M Pm D hr eM h rt nx => ?_
  · obtain ⟨a, W, v, m, i, rfl, _⟩ := h; rfl
  obtain ⟨a, W, v, m, i, rfl, ca, wo, hm, hd, hi, hP⟩ := h
  have hN : (["_law_catalog", "_law_demand", "_law_told_here", "e"] : List PySem.Str).Nodup := by decide
  refine r_set 2 (N := M) (P := mD K (.list [.str "other"])) (j_lst (ja_consD (j_str.val (.str _)) ja_nilD)) eM hN fun v1 N1 C1 g1 p1 => ?_
  refine r_try 3 (Wout := fun _ _ _ _ => False) rfl rfl hN rfl rfl ⟨rfl, by decide, Or.inl T.gM⟩ takes0 fun pn xe tk po => ?_
  refine r_setSC 2 F2 hr m2 k2 b2 tk hN (ja_cons (jv 0) (ja_cons (j_var 1 (P := mD K (dD (m, i))) (dp_mono g1.up hd)) ja_nil)) g1.sub fun vs N2 C2 g2 p => ?_
  obtain ⟨x, y, rfl, rfl, hy⟩ := la2 p
  have g12 := g1.trans g2
  refine ⟨N2, a, W, y, m, i, rfl, g2.sub, ca.mono g12.up, wo, hm, hy, hi, fun t ht v' N3 C3 g3 p3 => ⟨(by show 2 ≤ sizeLine; exact sz_of (by decide)), fun p hp => ?_⟩, fun hn d C3 e3 hC3 => ?_⟩
  · obtain ⟨l2, xs, ds, rfl, q1, q2, q3, rfl⟩ := p3
    have g13 := g12.trans g3
    have hne : p ≠ l2 := fun z => by rw [z, g3.sub _ _ q2] at hp; cases hp
    have hN3 : N3 p = none := fresh_back g3.sub hp
    refine r_nil (r_ret (N := upd N3 p (.lst [.str "done", .ref l2])) (P := mTold M K W m i) (j_var 2 (v := .ref p) ?_) (g13.new hp).sub fun v N' C' g p => rt v N' C' ((g13.new hp).trans g) (hP _ _ p))
    refine ⟨p, rfl, fresh_back g13.up hN3, ?_⟩
    rw [ht]
    exact ⟨l2, xs, upd_same, fresh_back g12.up q1, hne, by rw [upd_ne (Ne.symm hne)]; exact q2, dps_mono (Ex.new hN3) q3⟩
  · refine ⟨true, T.xm, fun _ b hb oe pn2 hz hf => ?_, fun z => nomatch z⟩
    have s3 : Ex N2 C3 := g2.sub.trans e3
    have g13 := g12.grow e3
    -- the exception's dict is counted in
    let N3 : Hp := fun c => if c = d then some (.xd (cmF (.str m) (.int i))) else none
    have eN3 : Ex N3 C3 := fun c o h => by
      by_cases hc : c = d
      · subst hc
        have h' : some (HO.xd (cmF (.str m) (.int i))) = some o := (if_pos rfl).symm.trans h
        rw [hC3, h']
      · have h' : (none : Option HO) = some o := (if_neg hc).symm.trans h
        cases h'
    have hd3 : N3 d = some (.xd (cmF (.str m) (.int i))) := if_pos rfl
    refine r_set 2 (N := N3) (P := mLX N3 [.str "cannot", .str m, .int i]) (j_ife (k := true) (jt_val (j_cb (call_isD T.ex hz hf) B.isi PyProof.Rows.Boot.«isinstance» (ja_cons (jv 3) (ja_cons (j_glo (v := .ref CR) T.gR rfl) ja_nil)) fun vs M4 g4 p4 => ?_))
      (fun _ => j_lstX (ev_as j_str (ev_as (j_ev (pe_xf T.xf T.n1 hz hf pE) fun C4 e4 Q q => (jv 3).ev C4 e4 _ fun H2 e2 => ⟨rfl, rfl, d, _, _, rfl, (e4.trans e2) d _ hd3, cmF_m _ _, q H2 e2⟩) (ev_as (j_ev (pe_xf T.xf T.n2 hz hf pE) fun C4 e4 Q q => (jv 3).ev C4 e4 _ fun H2 e2 => ⟨rfl, rfl, d, _, _, rfl, (e4.trans e2) d _ hd3, cmF_v _ _, q H2 e2⟩) ev_as0))) (by show 3 ≤ 100000; decide)) fun z => nomatch z) eN3 hN fun v4 N4 C4 g4 p4 => ?_
    · obtain ⟨x1, y1, rfl, rfl, rfl⟩ := la2 p4
      exact rc1_of fun H1 e1 Q q => ⟨rfl, d, _, .ref CR, .ref CR, true, rfl, (g4.trans e1) d _ hd3, rfl, fun u h => h, T.kit, q⟩
    · obtain ⟨l, rfl, h1, h2⟩ := p4
      have hC4 := g4.sub _ _ h2
      have hlC : C3 l = none := by
        rcases g4.dom l _ h2 with ⟨u, hu⟩ | hn | ⟨ys, hy⟩
        · rw [h1] at hu; cases hu
        · exact hn
        · cases hy
      have hl2 : N2 l = none := fresh_back s3 hlC
      have gg : Gr M C (upd N2 l (.lst [.str "cannot", .str m, .int i])) C4 := (g13.grow g4.ext).take hC4 (fresh_back g13.ext hlC) (fresh_back g12.up hl2)
      refine r_nil (r_ret (N := upd N2 l (.lst [.str "cannot", .str m, .int i])) (P := mTold M K W m i) (j_var 2 (v := .ref l) ?_) gg.sub fun v N' C' g p => rt v N' C' (gg.trans g) (hP _ _ p))
      refine ⟨l, rfl, fresh_back g12.up hl2, ?_⟩
      rw [hn]
      exact upd_same
end
end Gs

set_option Elab.async false
set_option linter.all false
set_option maxRecDepth 100000
set_option maxHeartbeats 4000000
/-! GsWld: the law's own world in the heap; contains, conflicts. -/
namespace Gs
open PySem PySem.Spec PyProof.Rows L2 Evl
structure WldA where
  w : Addr
  mo : Addr
  us : Addr
  wi : Addr
  th : Addr
  ul : PySem.Str → Addr
  wl : PySem.Str → PySem.Str → Addr
  tl : PySem.Str → Addr
def wldF (b : WldA) : List (Key × V) := [(.inr "modules", .ref b.mo), (.inr "uses", .ref b.us), (.inr "windows", .ref b.wi), (.inr "there", .ref b.th)]
structure WldAt (K : PySem.W.Frag) (C : Hp) (b : WldA) (W : Wr) : Prop where
  dd : C b.w = some (.dK (wldF b))
  mo : C b.mo = some (.lst (W.mods.map V.str))
  us : ∃ kvs : List (Key × V), C b.us = some (.dK kvs) ∧ kvs.length ≤ 1000 ∧ ∀ m, m ∈ W.mods → valV kvs (.inr m) = some (.ref (b.ul m))
  ul : ∀ m ns, (m, ns) ∈ W.us → C (b.ul m) = some (.lst (ns.map V.str))
  wi : ∃ kvs : List (List Key × V), C b.wi = some (.dT kvs) ∧ kvs.length ≤ 1000 ∧ ∀ m ns n, (m, ns) ∈ W.us → n ∈ ns → valV kvs [.inr m, .inr n] = some (.ref (b.wl m n))
  wl : ∀ m ns n, (m, ns) ∈ W.us → n ∈ ns → ∃ ws, C (b.wl m n) = some (.lst ws) ∧ DpAll K C ws ((W.win m n).map wD)
  th : ∃ kvs : List (Key × V), C b.th = some (.dK kvs) ∧ kvs.length ≤ 1000 ∧ ∀ m, m ∈ W.mods → valV kvs (.inr m) = some (.ref (b.tl m))
  tl : ∀ m, m ∈ W.mods → C (b.tl m) = some (.lst ((W.there m).map V.int))
theorem WldAt.mono {K : PySem.W.Frag} {C C' : Hp} {b : WldA} {W : Wr} (h : WldAt K C b W) (e : Ex C C') : WldAt K C' b W where
  dd := e _ _ h.dd
  mo := e _ _ h.mo
  us := by obtain ⟨k, h1, h2⟩ := h.us; exact ⟨k, e _ _ h1, h2⟩
  ul := fun m ns hm => e _ _ (h.ul m ns hm)
  wi := by obtain ⟨k, h1, h2⟩ := h.wi; exact ⟨k, e _ _ h1, h2⟩
  wl := fun m ns n h1 h2 => by
    obtain ⟨ws, h3, h4⟩ := h.wl m ns n h1 h2
    exact ⟨ws, e _ _ h3, dps_mono e h4⟩
  th := by obtain ⟨k, h1, h2⟩ := h.th; exact ⟨k, e _ _ h1, h2⟩
  tl := fun m hm => e _ _ (h.tl m hm)
section
variable {X : Cx} {o i : Expr} {σ : L2.St} {N : Hp} {K : PySem.W.Frag} {b : WldA} {W : Wr} {pos p0 : Pos} {j : Nat} {m n : PySem.Str}
theorem inrNe {x y : PySem.Str} (h : (x == y) = false) : ¬ (Sum.inr x : Key) = Sum.inr y := fun e => by
  have e' : x = y := Sum.inr.inj e
  rw [e', beq_self_eq_true] at h
  cases h
theorem wldG (b : WldA) : valV (wldF b) (.inr "modules") = some (V.ref b.mo) ∧ valV (wldF b) (.inr "uses") = some (V.ref b.us) ∧ valV (wldF b) (.inr "windows") = some (V.ref b.wi) ∧ valV (wldF b) (.inr "there") = some (V.ref b.th) := by
  have n1 : ∀ {y : PySem.Str}, ((("modules" : PySem.Str)) == y) = false → valV (wldF b) (.inr y) = valV ((wldF b).drop 1) (.inr y) := fun h => valV_neg (inrNe h)
  have n2 : ∀ {y : PySem.Str}, ((("uses" : PySem.Str)) == y) = false → valV ((wldF b).drop 1) (.inr y) = valV ((wldF b).drop 2) (.inr y) := fun h => valV_neg (inrNe h)
  have n3 : ∀ {y : PySem.Str}, ((("windows" : PySem.Str)) == y) = false → valV ((wldF b).drop 2) (.inr y) = valV ((wldF b).drop 3) (.inr y) := fun h => valV_neg (inrNe h)
  exact ⟨valV_pos rfl, (n1 (by decide +kernel)).trans (valV_pos rfl), (n1 (by decide +kernel)).trans ((n2 (by decide +kernel)).trans (valV_pos rfl)), (n1 (by decide +kernel)).trans ((n2 (by decide +kernel)).trans ((n3 (by decide +kernel)).trans (valV_pos rfl)))⟩
theorem j_wmo (hw : WldAt K N b W) (hu : X.A.units + 1 < cLine) (ho : J X o σ N (mIs (.ref b.w))) : J X (.Subscript o (.Constant (.str "modules") j p0) pos) σ N (mIs (.ref b.mo)) := j_dget hu ho j_str (by rw [← (wldG b).1]; exact DGet.k (k := .inr "modules") hw.dd)
theorem j_wus (hw : WldAt K N b W) (hu : X.A.units + 1 < cLine) (ho : J X o σ N (mIs (.ref b.w))) : J X (.Subscript o (.Constant (.str "uses") j p0) pos) σ N (mIs (.ref b.us)) := j_dget hu ho j_str (by rw [← (wldG b).2.1]; exact DGet.k (k := .inr "uses") hw.dd)
theorem j_wwi (hw : WldAt K N b W) (hu : X.A.units + 1 < cLine) (ho : J X o σ N (mIs (.ref b.w))) : J X (.Subscript o (.Constant (.str "windows") j p0) pos) σ N (mIs (.ref b.wi)) := j_dget hu ho j_str (by rw [← (wldG b).2.2.1]; exact DGet.k (k := .inr "windows") hw.dd)
theorem j_wth (hw : WldAt K N b W) (hu : X.A.units + 1 < cLine) (ho : J X o σ N (mIs (.ref b.w))) : J X (.Subscript o (.Constant (.str "there") j p0) pos) σ N (mIs (.ref b.th)) := j_dget hu ho j_str (by rw [← (wldG b).2.2.2]; exact DGet.k (k := .inr "there") hw.dd)
/-- world['uses'][m], world['there'][m], world['windows'][m, n] -/
theorem j_wusM (hw : WldAt K N b W) (hm : m ∈ W.mods) (hu : X.A.units + 1 < cLine) (ho : J X o σ N (mIs (.ref b.w))) (hi : J X i σ N (mIs (.str m))) (hs : NoSl i := by exact fun _ _ => rfl) {pos2 : Pos} : J X (.Subscript (.Subscript o (.Constant (.str "uses") j p0) pos) i pos2) σ N (mIs (.ref (b.ul m))) := by
  obtain ⟨k, h1, _, h2⟩ := hw.us
  exact j_dget hu (j_wus hw hu ho) hi (by rw [← h2 m hm]; exact DGet.k (k := .inr m) h1) hs
theorem j_wthM (hw : WldAt K N b W) (hm : m ∈ W.mods) (hu : X.A.units + 1 < cLine) (ho : J X o σ N (mIs (.ref b.w))) (hi : J X i σ N (mIs (.str m))) (hs : NoSl i := by exact fun _ _ => rfl) {pos2 : Pos} : J X (.Subscript (.Subscript o (.Constant (.str "there") j p0) pos) i pos2) σ N (mIs (.ref (b.tl m))) := by
  obtain ⟨k, h1, _, h2⟩ := hw.th
  exact j_dget hu (j_wth hw hu ho) hi (by rw [← h2 m hm]; exact DGet.k (k := .inr m) h1) hs
theorem j_wwiM {ns : List PySem.Str} {e1 e2 : Expr} {k2 : Nat} {pt pos2 : Pos} (hw : WldAt K N b W) (hm : (m, ns) ∈ W.us) (hn : n ∈ ns) (hu : X.A.units + 1 < cLine) (ho : J X o σ N (mIs (.ref b.w))) (h1 : J X e1 σ N (mIs (.str m))) (h2 : J X e2 σ N (mIs (.str n)))
    (hs : NoSl (.Tuple [e1, e2] k2 pt) := by exact fun _ _ => rfl) (hs1 : starEach [e1, e2] X.env = (false, eval e1 X.env) :: starEach [e2] X.env := by rfl) (hs2 : starEach [e2] X.env = (false, eval e2 X.env) :: starEach [] X.env := by rfl) :
    J X (.Subscript (.Subscript o (.Constant (.str "windows") j p0) pos) (.Tuple [e1, e2] k2 pt) pos2) σ N (mIs (.ref (b.wl m n))) := by
  obtain ⟨k, g1, _, g2⟩ := hw.wi
  exact j_dget2 (k1 := .inr m) (k2 := .inr n) hu (j_wwi hw hu ho) h1 h2 g1 (g2 m ns n hm hn) hs hs1 hs2
theorem WldAt.uses (hw : WldAt K N b W) {ns : List PySem.Str} (hm : (m, ns) ∈ W.us) : Dp K N (.ref (b.ul m)) (.list (strsD ns)) := .lst (SqL.of (hw.ul m ns hm)) (dps_strs ns)
theorem WldAt.mod (hw : WldAt K N b W) : Dp K N (.ref b.mo) (.list (strsD W.mods)) := .lst (SqL.of hw.mo) (dps_strs _)
theorem WldAt.thr (hw : WldAt K N b W) (hm : m ∈ W.mods) : Dp K N (.ref (b.tl m)) (.list ((W.there m).map .int)) := .lst (SqL.of (hw.tl m hm)) (dps_ints _)
theorem WldAt.wns (hw : WldAt K N b W) {ns : List PySem.Str} (hm : (m, ns) ∈ W.us) (hn : n ∈ ns) : Dp K N (.ref (b.wl m n)) (.list ((W.win m n).map wD)) := by
  obtain ⟨ws, h1, h2⟩ := hw.wl m ns n hm hn
  exact .lst (SqL.of h1) h2
end
section
variable {P : Program} {w : World} {K : PySem.W.Frag} {mg : PySem.Str → Option Value} {base : Heap}
def preCont (K : PySem.W.Frag) (vs : List V) (N : Hp) (P : MP) : Prop := ∃ a v q, vs = [a, .int v] ∧ Dp K N a (wD q) ∧ P = mIs (.bl (contB q v))
theorem ok_contains (F : DF K mg "_law_contains" (top 59)) : Cl P w K mg base 1 "_law_contains" (preCont K) := by
  refine cl_of (N := ["_law_window", "_law_version"]) (ps := ["_law_window", "_law_version"]) F (by decide +kernel) (fun vs M Pm h => ?_) (fun _ _ _ _ _ _ us hl => match us, hl with | [_, _], _ => rfl) fun f cdv A outer s C E vs M Pm D hr eM h rt nx => ?_
  · obtain ⟨a, v, q, rfl, _⟩ := h; rfl
  obtain ⟨a, v, ⟨l, h⟩, rfl, hd, rfl⟩ := h
  refine r_ret (N := M) (P := mIs (.bl (contB (l, h) v))) ?_ eM rt
  unfold contB
  refine j_and (j_cmp op_le (J.int (j_ixT (j_var 0 (P := mD K (wD (l, h))) hd) j_int rfl)) (jv 1) rv_I0) fun _ => j_one ?_
  cases h with
  | none => exact j_orT (j_cmp op_isN (J.opt (h := none) (j_ixT (j_var 0 (P := mD K (wD (l, none))) hd) j_int rfl)) j_non rv_isN)
  | some x => exact j_orF (j_cmp op_isN (J.opt (h := some x) (j_ixT (j_var 0 (P := mD K (wD (l, some x))) hd) j_int rfl)) j_non rv_isN) (j_one (j_cmp op_le (jv 1) (J.opt (h := some x) (j_ixT (j_var 0 (P := mD K (wD (l, some x))) hd) j_int rfl)) rv_I0))
/-- a state dict: the version of some modules -/
def StD (C : Hp) (s : Addr) (g : PySem.Str → Option Nat) : Prop := ∃ kvs : List (Key × V), C s = some (.dK kvs) ∧ ∀ m, valV kvs (.inr m) = (g m).map fun k : Nat => V.int (k : Int)
/-- no pair of modules that have versions is at odds -/
def Agree (W : Wr) (g : PySem.Str → Option Nat) : Prop := ∀ m ns n i j, (m, ns) ∈ W.us → n ∈ ns → g m = some i → g n = some j → contB ((W.win m n).getD i (0, none)) (j : Int) = true
def okP (d : PyData) : Prop := d.canLay0 = true ∧ d.depth ≤ 5
def preConf (K : PySem.W.Frag) (vs : List V) (N : Hp) (P : MP) : Prop := ∃ b W s g, vs = [.ref b.w, .ref s] ∧ WldAt K N b W ∧ WOk W ∧ StD N s g ∧ (∀ m i, g m = some i → i < W.cnt m) ∧ mle (mNL N K fun ds => (∀ d ∈ ds, okP d) ∧ (ds = [] → Agree W g)) P
theorem strOk_name {z : PySem.Str} (h : NameOk z) : PyData.strOk z = true := by
  unfold PyData.strOk
  rw [← Array.all_toList, List.all_eq_true]
  intro c hc
  have hm := h.2.2 c hc
  have hall : letters.cps.toList.all (fun c => decide (c < 0x110000)) = true := by decide +kernel
  exact List.all_eq_true.mp hall c hm
theorem okP_pair {W : Wr} (o : WOk W) {m n : PySem.Str} (hm : m ∈ W.mods) (hn : n ∈ W.mods) : okP (.tuple [.str m, .str n]) := by
  refine ⟨?_, by simp [PyData.depth, PyData.depthAll]⟩
  simp [PyData.canLay0, PyData.canLayAll0, strOk_name (o.nm m hm), strOk_name (o.nm n hn)]
theorem ok_conflicts (F : DF K mg "_law_conflicts" (top 60)) (c1 : Cl P w K mg base 1 "_law_contains" (preCont K)) : Cl P w K mg base 2 "_law_conflicts" (preConf K) := by
  refine cl_of (N := ["_law_world_here", "_law_state", "_law_found", "_law_user", "_law_used"]) (ps := ["_law_world_here", "_law_state"]) F (by decide +kernel) (fun vs M Pm h => ?_) (fun _ _ _ _ _ _ us hl => match us, hl with | [_, _], _ => rfl) fun f cdv A outer s C E vs M Pm D hr eM h rt nx => ?_
  · obtain ⟨b, W, s, g, rfl, _⟩ := h; rfl
  obtain ⟨b, W, s, g, rfl, hw, wo, ⟨kvs, hs1, hs2⟩, hg, hP⟩ := h
  have hN : (["_law_world_here", "_law_state", "_law_found", "_law_user", "_law_used"] : List PySem.Str).Nodup := by decide
  refine r_set 2 (N := M) (P := mNL M K (· = [])) (j_lstN ja_nilD) eM hN fun v1 N1 C1 g1 p1 => ?_
  obtain ⟨l, xs, ds, M1, rfl, gl, hl1, hlC, hdx, rfl⟩ := out_list g1 p1 fun ds h d hd => by subst h; cases hd
  have hxs : xs = [] := by cases hdx; rfl
  subst hxs
  have hl0 : M l = none := fresh_back gl.up hl1
  have hCl : C l = none := by
    obtain ⟨l', xs', ds', h1, h2, h3, h4⟩ := p1
    cases h1
    rcases g1.dom l _ h3 with ⟨u, hu⟩ | hn | ⟨zs, hz⟩
    · rw [h2] at hu; cases hu
    · exact hn
    · cases hz
  -- pairs seen so far: all whose module is among the first i, or the i-th and its use among the first k
  have step : ∀ {N2 : Hp} {C2 : Hp} {ys : List V} {es : List PyData}, Gr M C N2 C2 → N2 l = none → C2 l = some (.lst ys) → ys.length ≤ 100 → True := fun _ _ _ _ => trivial
  refine r_for (N := M1) (n := (strsD W.mods).length) (I := fun j => mR K fun d => (strsD W.mods)[j]? = some d) (pi_list pE) (ji_list ((j_wmo (hw.mono gl.up) (hu_of hr) (jv 0)).val (hw.mono gl.up).mod)) gl.sub (pg_name (i := 3) hN rfl (Or.inl rfl)) PassesOwn.never rfl
    (fun N2 i σ C2 => ∃ Mi ys es o3 o4, Gr M C Mi C2 ∧ Ex N2 Mi ∧ Mi l = none ∧ C2 l = some (.lst ys) ∧ DpAll K Mi ys es ∧ (∀ d ∈ es, okP d ∧ noL d = true) ∧ es.length ≤ 3 * i ∧ (es = [] → ∀ m ns n i2 j2, m ∈ W.mods.take i → (m, ns) ∈ W.us → n ∈ ns → g m = some i2 → g n = some j2 → contB ((W.win m n).getD i2 (0, none)) (j2 : Int) = true) ∧ σ = [some (.ref b.w), some (.ref s), some (.ref l), o3, o4])
    (fun N2 C2 g2 => ⟨N2, [], [], none, none, gl.trans g2, Ex.refl _, g2.out hl1 hlC, g2.ext _ _ hlC, .nil, fun d hd => (by cases hd), Nat.zero_le _, fun _ m ns n i2 j2 hm => (by simp at hm), rfl⟩) (fun N2 i σ C2 ⟨Mi, ys, es, o3, o4, h1, h2, _⟩ => h2.trans h1.sub) (fun N2 i x σ C2 M2 C3 e2 hi hP2 gM hx => ?_) fun N2 σ C2 e2 hP2 => ?_
  · obtain ⟨Mi, ys, es, o3, o4, gi, eNi, hMl, hC2, hde, hok, hel, hag, rfl⟩ := hP2
    obtain ⟨gm2, em2⟩ := gM.more eNi gi.sub
    obtain ⟨d, hd1, hd2⟩ := hx
    unfold strsD at hd1 hi
    rw [List.length_map] at hi
    rw [List.getElem?_map, List.getElem?_eq_getElem hi] at hd1
    have hd1' : PyData.str W.mods[i] = d := Option.some.inj hd1
    subst hd1'
    obtain rfl := dp_str hd2
    have g3 := gi.trans gm2
    have hm : W.mods[i] ∈ W.mods := List.getElem_mem hi
    obtain ⟨ns, hns⟩ := mem_us hm
    have hfew := uses_few wo W.mods[i]
    rw [wo.usesOf hns] at hfew
    have hw3 := hw.mono g3.up
    have hi3 : i < 3 := by have := wo.few; unfold Wr.mods at hi; rw [List.length_map] at hi; omega
    refine r_for (N := un Mi M2) (n := (strsD ns).length) (I := fun j => mR K fun d => (strsD ns)[j]? = some d) (pi_list pE) (ji_list ((j_wusM hw3 hm (hu_of hr) (jv 0) (jv 3)).val (hw3.uses hns))) g3.sub (pg_name (i := 4) hN rfl (Or.inl rfl)) PassesOwn.never rfl
      (fun N4 k σ C4 => ∃ Mk zs fs o4, Gr M C Mk C4 ∧ Ex N4 Mk ∧ Mk l = none ∧ C4 l = some (.lst zs) ∧ DpAll K Mk zs fs ∧ (∀ d ∈ fs, okP d ∧ noL d = true) ∧ fs.length ≤ 3 * i + k ∧ Ex Mi Mk ∧ (fs = [] → es = [] ∧ ∀ n i2 j2, n ∈ ns.take k → g W.mods[i] = some i2 → g n = some j2 → contB ((W.win W.mods[i] n).getD i2 (0, none)) (j2 : Int) = true) ∧ σ = [some (.ref b.w), some (.ref s), some (.ref l), some (.str W.mods[i]), o4])
      (fun N4 C4 g4 => ⟨N4, ys, es, o4, g3.trans g4, Ex.refl _, g4.out (gm2.out hMl hC2) (gm2.ext _ _ hC2), (gm2.trans g4).ext _ _ hC2, dps_mono (gm2.up.trans g4.up) hde, hok, by omega, gm2.up.trans g4.up, fun h => ⟨h, fun n i2 j2 hn => (by simp at hn)⟩, rfl⟩) (fun N4 k σ C4 ⟨Mk, zs, fs, o4, h1, h2, _⟩ => h2.trans h1.sub) (fun N4 k x σ C4 M5 C5 e4 hk hP4 gM4 hx => ?_) fun N4 σ C4 e4 hP4 => ?_
    · obtain ⟨Mk, zs, fs, o4, gk, eNk, hMk, hC4, hdf, hokf, hfl, eik, hagf, rfl⟩ := hP4
      obtain ⟨gm5, em5⟩ := gM4.more eNk gk.sub
      obtain ⟨d, hd1, hd2⟩ := hx
      unfold strsD at hd1 hk
      rw [List.length_map] at hk
      rw [List.getElem?_map, List.getElem?_eq_getElem hk] at hd1
      have hd1' : PyData.str ns[k] = d := Option.some.inj hd1
      subst hd1'
      obtain rfl := dp_str hd2
      have g6 := gk.trans gm5
      have hn : ns[k] ∈ ns := List.getElem_mem hk
      have hnm := ((wo.ns _ ns hns).2 _ hn).1
      have hw6 := hw.mono g6.up
      have hs6 : ∀ m, DGet (un Mk M5) s (.str m) ((g m).map fun k : Nat => V.int (k : Int)) := fun m => .inl ⟨kvs, .inr m, .inl (g6.up _ _ hs1), rfl, (hs2 m).symm⟩
      have hMk6 := gm5.out hMk hC4
      have hC6 := gm5.ext _ _ hC4
      have hzl : zs.length = fs.length := dps_len hdf
      have hdf6 := dps_mono gm5.up hdf
      -- both have versions?
      have fin : ∀ C7, Ex C5 C7 → (g W.mods[i] = none ∨ g ns[k] = none ∨ ∃ i2 j2, g W.mods[i] = some i2 ∧ g ns[k] = some j2 ∧ contB ((W.win W.mods[i] ns[k]).getD i2 (0, none)) (j2 : Int) = true) →
          ∃ Mk zs fs o4, Gr M C Mk C7 ∧ Ex N4 Mk ∧ Mk l = none ∧ C7 l = some (HO.lst zs) ∧ DpAll K Mk zs fs ∧ (∀ d ∈ fs, okP d ∧ noL d = true) ∧ fs.length ≤ 3 * i + (k + 1) ∧ Ex Mi Mk ∧ (fs = [] → es = [] ∧ ∀ n i2 j2, n ∈ ns.take (k + 1) → g W.mods[i] = some i2 → g n = some j2 → contB ((W.win W.mods[i] n).getD i2 (0, none)) (j2 : Int) = true) ∧ ([some (V.ref b.w), some (V.ref s), some (V.ref l), some (V.str W.mods[i]), some (V.str ns[k])] : L2.St) = [some (V.ref b.w), some (V.ref s), some (V.ref l), some (V.str W.mods[i]), o4] := fun C7 e7 hc => by
        refine ⟨un Mk M5, zs, fs, some (.str ns[k]), g6.grow e7, eNk.trans gm5.up, hMk6, e7 _ _ hC6, hdf6, hokf, by omega, eik.trans gm5.up, fun h => ⟨(hagf h).1, fun n i2 j2 hn2 h1 h2 => ?_⟩, rfl⟩
        rw [List.take_succ, List.getElem?_eq_getElem hk] at hn2
        rcases List.mem_append.mp hn2 with hn2 | hn2
        · exact (hagf h).2 n i2 j2 hn2 h1 h2
        · have : n = ns[k] := by simpa using hn2
          subst this
          rcases hc with hc | hc | ⟨i3, j3, h3, h4, h5⟩
          · rw [hc] at h1; cases h1
          · rw [hc] at h2; cases h2
          · rw [h3] at h1; rw [h4] at h2; cases h1; cases h2; exact h5
      refine r_if (N := un Mk M5) (k := (g W.mods[i]).isSome && (g ns[k]).isSome) ((JW.t (jw_and (jt_din (hu_of hr) (jv 3) (jv 1) (hs6 _)) fun _ => jw_and1 (jt_din (hu_of hr) (jv 4) (jv 1) (hs6 _)))).is (by simp)) g6.sub (fun hb C7 e7 => ?_) fun hb C7 e7 => ?_
      · rw [Bool.and_eq_true] at hb
        obtain ⟨i2, hi2⟩ := Option.isSome_iff_exists.mp hb.1
        obtain ⟨j2, hj2⟩ := Option.isSome_iff_exists.mp hb.2
        have hlen := wo.len _ ns _ hns hn
        have hcnt := hg _ _ hi2
        have hq : (W.win W.mods[i] ns[k])[i2]? = some ((W.win W.mods[i] ns[k])[i2]'(by omega)) := List.getElem?_eq_getElem (by omega)
        have egq : (W.win W.mods[i] ns[k]).getD i2 (0, none) = (W.win W.mods[i] ns[k])[i2]'(by omega) := by rw [List.getD_eq_getElem?_getD, hq] <;> rfl
        generalize hqq : (W.win W.mods[i] ns[k])[i2]'(by omega) = q at hq egq
        have d1 := hs6 W.mods[i]
        have d2 := hs6 ns[k]
        rw [hi2] at d1
        rw [hj2] at d2
        refine r_if (N := un Mk M5) (k := !contB q (j2 : Int)) (jt_not (jt_val (j_call c1 hr (ja_cons (j_ixL (ds := (W.win W.mods[i] ns[k]).map wD) (d := wD q) ((j_wwiM hw6 hns hn (hu_of hr) (jv 0) (jv 3) (jv 4)).val (hw6.wns hns hn)) (j_dget (hu_of hr) (jv 1) (jv 3) d1) (atI_map hq)) (ja_cons (j_dget (hu_of hr) (jv 1) (jv 4) d2) ja_nil)) fun vs M' g p => ?_))) (g6.sub.trans e7) (fun hb2 C8 e8 => ?_) fun hb2 C8 e8 => ?_
        · obtain ⟨x, y, rfl, hx, rfl⟩ := la2 p
          exact ⟨x, j2, q, rfl, hx, rfl⟩
        · refine r_app (l := l) (xs := zs) (N := un Mk M5) (jv 2) (j_tup (K := K) (ja_consD ((jv 3).val (.str _)) (ja_consD ((jv 4).val (.str _)) ja_nilD)) (by show 2 ≤ 100000; decide)) (g6.sub.trans (e7.trans e8)) hMk6 ((e7.trans e8) _ _ hC6) (by omega) fun v N9 C9 g9 h9 p9 => ?_
          have hC0 := hCl
          refine r_nil (r_nil (r_nil ⟨N9, zs ++ [v], fs ++ [.tuple [.str W.mods[i], .str ns[k]]], some (.str ns[k]), (((g6.grow (e7.trans e8)).trans g9).mut hCl h9), eNk.trans (gm5.up.trans g9.up), h9, upd_same, dps_snoc (dps_mono g9.up hdf6) (show Dp K N9 v (.tuple [.str W.mods[i], .str ns[k]]) from p9), fun d hd => ?_, ?_, eik.trans (gm5.up.trans g9.up), fun h => ?_, rfl⟩))
          · rcases List.mem_append.mp hd with hd | hd
            · exact hokf d hd
            · have : d = .tuple [.str W.mods[i], .str ns[k]] := by simpa using hd
              subst this
              exact ⟨okP_pair wo hm hnm, by simp [noL, noLs]⟩
          · rw [List.length_append, List.length_singleton]; omega
          · simp at h
        · refine r_nil (r_nil (r_nil (fin C8 (e7.trans e8) (.inr (.inr ⟨i2, j2, hi2, hj2, ?_⟩)))))
          rw [egq]
          simpa using hb2
      · refine r_nil (r_nil (fin C7 e7 ?_))
        cases h1 : g W.mods[i] with
        | none => exact .inl rfl
        | some i2 =>
          cases h2 : g ns[k] with
          | none => exact .inr (.inl rfl)
          | some j2 => rw [h1, h2] at hb; simp at hb
    · obtain ⟨Mk, zs, fs, o4, gk, eNk, hMk, hC4, hdf, hokf, hfl, eik, hagf, rfl⟩ := hP4
      unfold strsD at hagf hfl
      rw [List.length_map] at hagf hfl
      rw [List.take_length] at hagf
      refine r_nil ⟨Mk, zs, fs, some (.str W.mods[i]), o4, gk, eNi.trans eik, hMk, hC4, hdf, hokf, by omega, fun h m ns2 n i2 j2 hm2 hns2 hn2 h1 h2 => ?_, rfl⟩
      rw [List.take_succ, List.getElem?_eq_getElem hi] at hm2
      rcases List.mem_append.mp hm2 with hm2 | hm2
      · exact hag (hagf h).1 m ns2 n i2 j2 hm2 hns2 hn2 h1 h2
      · have : m = W.mods[i] := by simpa using hm2
        subst this
        have e1 := wo.usesOf hns
        rw [wo.usesOf hns2] at e1
        subst e1
        exact (hagf h).2 n i2 j2 hn2 h1 h2
  · obtain ⟨Mi, ys, es, o3, o4, gi, eNi, hMl, hC2, hde, hok, hel, hag, rfl⟩ := hP2
    unfold strsD at hag
    rw [List.length_map, List.take_length] at hag
    obtain ⟨gi2, pi2⟩ := in_list (R := (· = es)) gi hMl hCl hC2 hde rfl
    refine r_ret (N := upd Mi l (.lst ys)) (P := mNL M K (· = es)) (j_var 2 pi2) gi2.sub fun v N' C' g p => rt v N' C' (gi2.trans g) (hP _ _ (mNL_up (R' := fun ds => (∀ d ∈ ds, okP d) ∧ (ds = [] → Agree W _)) (Ex.refl _) p fun ds h => ?_))
    subst h
    exact ⟨fun d hd => (hok d hd).1, fun h m ns n i2 j2 hns hn h1 h2 => hag h m ns n i2 j2 (us_mem hns) hns hn h1 h2⟩
end
end Gs

set_option Elab.async false
set_option linter.all false
set_option maxRecDepth 100000
set_option maxHeartbeats 4000000
/-! GsWld2: dict(list(zip(..))), tests with an open answer, stores into dicts; states. -/
namespace Gs
open PySem PySem.Spec PyProof.Rows L2 Evl
/-! ### rules -/
def mDK (N : Hp) (kvs : List (Key × V)) : MP := ⟨fun v H => ∃ D, v = .ref D ∧ N D = none ∧ H D = some (.dK kvs), fun e ⟨D, h1, h2, h3⟩ => ⟨D, h1, h2, e _ _ h3⟩⟩
def mTU (xs : List Nat) : MP := ⟨fun v H => ∃ b, v = .ref b ∧ H b = some (.tup (xs.map fun k : Nat => V.int (k : Int))), fun e ⟨b, h1, h2⟩ => ⟨b, h1, e _ _ h2⟩⟩
theorem noLst_TU (xs : List Nat) : NoLst (mTU xs) := fun v H H' k ⟨b, h1, h2⟩ => ⟨b, h1, k _ _ h2 fun _ z => by cases z⟩
section
variable {X : Cx} {a b c e o i e1 e2 : Expr} {es : List Expr} {body els rest : List Stmt} {σ : L2.St} {N C : Hp} {P1 P2 P : MP} {D : Ends} {pos pos' p p2 q2 : Pos} {A : Bool → Prop} {l s mo : Addr} {K : PySem.W.Frag}
theorem jb_cmpP {op : CmpOp} {r : R2} (ho : OpR X (compareOp op) r) (ha : J X a σ N P1) (hb : J X b σ N P2) (hr : ∀ x y M, Ex N M → P1.p x M → P2.p y M → RP r x y M (mB A)) (hm : behindInMarks op b = false := by first | exact nomark _ | with_unfolding_all rfl) : EvB (tT X (.Compare a [op] [b] pos)) σ N A := fun C eC Q q =>
  le_T (pt_cmpR ho pE pE hm) (eb_test (ep_op ha hb hr) C eC Q q)
theorem r_ifB (hc : EvB (tT X c) σ N A) (eN : Ex N C) (h1 : A true → ∀ C', Ex C C' → tR X body { D with nx := tR X rest D } σ C') (h2 : A false → ∀ C', Ex C C' → tR X els { D with nx := tR X rest D } σ C') : tR X (.If c body els pos :: rest) D σ C :=
  r_of (ps_if pT pR pR) (hc C eN _ fun k N' C' g hA => by
    cases k with
    | true => exact iteT (h1 hA C' g.ext)
    | false => exact iteF (h2 hA C' g.ext))
/-- d[k] = e, d a dict that the part does not hold -/
theorem r_dput {kvs : List (Key × V)} {k : Key} {v : V} (hu : X.A.units + 1 < cLine) (he : J X e σ N (mIs v)) (ho : J X o σ N (mIs (.ref s))) (hi : J X i σ N (mIs (kV k))) (eN : Ex N C) (hC : C s = some (.dK kvs)) (hz : kvs.length < 100000) (kk : ∀ C', Ex C C' → tR X rest D σ (upd C' s (.dK (putK kvs k v))))
    (hs : swapsWith e (some (.Subscript o i pos')) pos.line X.env = pure false := by rfl) : tR X (.Assign [.Subscript o i pos'] e pos :: rest) D σ C :=
  r_of (ps_dput hu pE pE pE hs) (he.ev C eN _ fun C1 e1 => ho.ev C1 (eN.trans e1) _ fun C2 e2 => hi.ev C2 (eN.trans (e1.trans e2)) _ fun C3 e3 => ⟨s, _, rfl, DPut.k ((e1.trans (e2.trans e3)) _ _ hC) (sz_lt hz), kk C3 (e1.trans (e2.trans e3))⟩)
theorem j_tup1 {k : Nat} {j : Nat} (h : J X e σ N (mIs (.int (k : Int)))) (hs1 : starEach [e] X.env = (false, eval e X.env) :: starEach [] X.env := by rfl) : J X (.Tuple [e] j pos) σ N (mTU [k]) :=
  j_of (pe_tup (pa_cons pE pa_nil hs1)) fun C eC Q q => eu_tup (ea_cons h.ev ea_nil) (by show 1 ≤ 100000; decide) C eC Q fun p H2 hp e2 h => q (.ref p) (upd N p (.tup [.int (k : Int)])) H2 ((Gr.of_ex eC e2).take h hp (fresh_back eC hp)) ⟨p, rfl, upd_same⟩
theorem j_tup0 {j : Nat} : J X (.Tuple [] j pos) σ N (mTU []) :=
  j_of (pe_tup pa_nil) fun C eC Q q => eu_tup ea_nil (by show 0 ≤ 100000; decide) C eC Q fun p H2 hp e2 h => q (.ref p) (upd N p (.tup [])) H2 ((Gr.of_ex eC e2).take h hp (fresh_back eC hp)) ⟨p, rfl, upd_same⟩
theorem j_cat {xs ys : List Nat} (ha : J X a σ N (mTU xs)) (hb : J X b σ N (mTU ys)) (hy : ys ≠ []) (hz : xs.length + ys.length ≤ 100000) : J X (.BinOp a .Add b pos) σ N (mTU (xs ++ ys)) :=
  j_opP op_catA ha hb fun x y M g ⟨p, h1, h2⟩ ⟨q, h3, h4⟩ C eC Q k => by
    subst h1 h3
    refine ⟨p, q, _, _, rfl, rfl, SqT.of (eC _ _ h2), SqT.of (eC _ _ h4), ?_, fun hx => ?_, fun _ hy' => absurd (List.map_eq_nil_iff.mp hy') hy, fun _ _ l hl => ?_⟩
    · rw [List.length_map, List.length_map]; exact sz_of hz
    · have : xs = [] := List.map_eq_nil_iff.mp hx
      subst this
      exact k (.ref q) M C (Gr.refl eC) ⟨q, rfl, h4⟩
    · have hn : M l = none := fresh_back eC hl
      exact k (.ref l) (upd M l (.tup _)) _ ((Gr.refl eC).new hl) ⟨l, rfl, by rw [upd_same, List.map_append]⟩
/-- dict(list(zip(names, numbers))) -/
def zipKV (ns : List PySem.Str) (xs : List Nat) : List (Key × V) := (List.range (min ns.length xs.length)).map fun j => (.inr (ns.getD j ⟨#[]⟩), .int ((xs.getD j 0 : Nat) : Int))
theorem paired_range {α β : Type} {R : α → β → Prop} {f : Nat → β} : ∀ {as : List α}, (∀ j x, as[j]? = some x → R x (f j)) → Paired R as ((List.range as.length).map f) := by
  intro as
  induction as generalizing f with
  | nil => intro _; exact .nil
  | cons a r ih =>
    intro h
    rw [List.length_cons, List.range_succ_eq_map, List.map_cons, List.map_map]
    exact .cons (h 0 a rfl) (ih fun j x hx => h (j + 1) x (by simpa using hx))
theorem j_dictZip {ns : List PySem.Str} {xs : List Nat} {pz pl pd cz cl cd : Pos} (hc : X.calm = true) (ha : J X a σ N (mIs (.ref mo))) (hmo : N mo = some (.lst (ns.map V.str))) (hb : J X b σ N (mTU xs)) (hn : ns.length ≤ 1000) (hmz : X.mg "zip" = none) (hml : X.mg "list" = none) (hmd : X.mg "dict" = none) (hgz : Gl X "zip" := by rfl) (hgl : Gl X "list" := by rfl) (hgd : Gl X "dict" := by rfl)
    (hs : starEach [a, b] X.env = (false, eval a X.env) :: starEach [b] X.env := by rfl) (hs1 : starEach [b] X.env = (false, eval b X.env) :: starEach [] X.env := by rfl) (hpl : (backTo cz (starEach [b] X.env)).any (·.1) = false := by rfl)
    (hs2 : starEach [.Call (.Name "zip" pz) [a, b] [] cz] X.env = (false, eval (.Call (.Name "zip" pz) [a, b] [] cz) X.env) :: starEach [] X.env := by rfl)
    (hs3 : starEach [.Call (.Name "list" pl) [.Call (.Name "zip" pz) [a, b] [] cz] [] cl] X.env = (false, eval (.Call (.Name "list" pl) [.Call (.Name "zip" pz) [a, b] [] cz] [] cl) X.env) :: starEach [] X.env := by rfl) (hp3 : (backTo cd (starEach [] X.env)).any (·.1) = false := by rfl) :
    J X (.Call (.Name "dict" pd) [.Call (.Name "list" pl) [.Call (.Name "zip" pz) [a, b] [] cz] [] cl] [] cd) σ N (mDK N (mergeK [] (zipKV ns xs))) := by
  have hzip : J X (.Call (.Name "list" pl) [.Call (.Name "zip" pz) [a, b] [] cz] [] cl) σ N ⟨fun v H => ∃ (q : Addr) (Ts : List Addr), v = .ref q ∧ H q = some (.lst (Ts.map V.ref)) ∧ PairsAt H (ns.map V.str) (xs.map fun k : Nat => V.int (k : Int)) (min (ns.map V.str).length (xs.map fun k : Nat => V.int (k : Int)).length) Ts,
      fun e ⟨q, Ts, h1, h2, h3, h4⟩ => ⟨q, Ts, h1, e _ _ h2, h3, fun j T hj => let ⟨x, y, h5, h6, h7⟩ := h4 j T hj; ⟨x, y, h5, h6, e _ _ h7⟩⟩⟩ := by
    refine j_of (pe_listZip hc hgz hmz hgl hml (pa_cons pE (pa_cons pE pa_nil hs1) hs) hs hpl hs2) fun C eC Q k => ?_
    refine (ha.ev C eC _ fun C1 e1 => hb C1 (eC.trans e1) _ fun y N2 C2 g2 hy => ?_)
    obtain ⟨tb, rfl, htb⟩ := hy
    have g2' : Gr N C N2 C2 := (Gr.of_ex eC e1).trans g2
    refine ⟨mo, tb, _, _, rfl, SqL.of (g2'.sub _ _ (g2'.up _ _ hmo)), SqT.of (g2.sub _ _ htb), by rw [List.length_map]; exact hn, fun q Ts H2 hq e2 hqs hps hT hdom => ?_⟩
    let N3 : Hp := fun c => if c = q ∨ c ∈ Ts then H2 c else N2 c
    have hN3 : ∀ c o, N2 c = some o → N3 c = some o := fun c o h => by
      have h1 := g2.sub c o h
      have : ¬ (c = q ∨ c ∈ Ts) := by
        rintro (rfl | hm)
        · rw [hq] at h1; cases h1
        · rw [hT c hm] at h1; cases h1
      exact (if_neg this).trans h
    have hin : ∀ c, c = q ∨ c ∈ Ts → N3 c = H2 c := fun c h => if_pos h
    refine k (.ref q) N3 H2 ⟨fun c o h => hN3 c o (g2'.up c o h), fun c o h => ?_, g2'.ext.trans e2, fun c o h => ?_⟩ ⟨q, Ts, rfl, by rw [hin q (.inl rfl)]; exact hqs, hps.1, fun j T hj => ?_⟩
    · by_cases hcq : c = q ∨ c ∈ Ts
      · rw [hin c hcq] at h; exact h
      · exact e2 c o (g2.sub c o ((if_neg hcq).symm.trans h))
    · by_cases hcq : c = q ∨ c ∈ Ts
      · refine .inr (.inl (fresh_back g2'.ext ?_))
        rcases hcq with rfl | hm
        · exact hq
        · exact hT c hm
      · exact g2'.dom c o ((if_neg hcq).symm.trans h)
    · obtain ⟨x, y, h1, h2, h3⟩ := hps.2 j T hj
      exact ⟨x, y, h1, h2, by rw [hin T (.inr (List.mem_of_getElem? hj))]; exact h3⟩
  refine j_cty1 (call_dictP hc) hmd PyProof.Rows.Boot.«dict» hzip (fun v M g hp C eC Q k => ?_) hgd (hs := hs3) (hpl := hp3)
  obtain ⟨q, Ts, rfl, h1, h2, h3⟩ := hp
  rw [List.length_map, List.length_map] at h2
  refine ⟨q, Ts, zipKV ns xs, rfl, SqL.of (eC _ _ h1), ?_, fun p hp => ?_⟩
  · unfold zipKV
    rw [← h2]
    refine paired_range fun j T hj => ?_
    obtain ⟨x, y, h5, h6, h7⟩ := h3 j T hj
    rw [List.getElem?_map] at h5 h6
    cases e5 : ns[j]? with
    | none => rw [e5] at h5; cases h5
    | some n =>
      cases e6 : xs[j]? with
      | none => rw [e6] at h6; cases h6
      | some k6 =>
        rw [e5] at h5
        rw [e6] at h6
        cases h5
        cases h6
        have a1 : ns.getD j ⟨#[]⟩ = n := by rw [List.getD_eq_getElem?_getD, e5] <;> rfl
        have a2 : xs.getD j 0 = k6 := by rw [List.getD_eq_getElem?_getD, e6] <;> rfl
        rw [a1, a2]
        exact SqT.of (eC _ _ h7)
  · have hn : M p = none := fresh_back eC hp
    exact k (.ref p) (upd M p (.dK _)) _ ((Gr.refl eC).new hp) ⟨p, rfl, fresh_back g hn, upd_same⟩
end
/-! ### the version of a module in a state -/
def gOf (W : Wr) (xs : List Nat) (m : PySem.Str) : Option Nat := xs[W.mods.idxOf m]?
theorem idx_nd {W : Wr} (o : WOk W) {i : Nat} (h : i < W.mods.length) : W.mods.idxOf W.mods[i] = i := List.Nodup.idxOf_getElem o.nd i h
theorem zip_val {W : Wr} (o : WOk W) {xs : List Nat} (hl : xs.length ≤ W.mods.length) (m : PySem.Str) : valV (mergeK [] (zipKV W.mods xs)) (.inr m) = (gOf W xs m).map fun k : Nat => V.int (k : Int) := by
  have key : ∀ n, n ≤ xs.length → valV (mergeK [] ((List.range n).map fun j => ((.inr (W.mods.getD j ⟨#[]⟩), .int ((xs.getD j 0 : Nat) : Int)) : Key × V))) (.inr m) = ((xs.take n)[W.mods.idxOf m]?).map fun k : Nat => V.int (k : Int) := by
    intro n
    induction n with
    | zero => intro _; simp [mergeK, valV]
    | succ n ih =>
      intro h
      have hn : n < xs.length := h
      have hm : n < W.mods.length := by omega
      rw [List.range_succ, List.map_append, List.map_singleton]
      unfold mergeK
      rw [List.foldl_append, List.foldl_cons, List.foldl_nil]
      rw [valV_put]
      have ih' := ih (Nat.le_of_lt hn)
      unfold mergeK at ih'
      have e1 : W.mods.getD n ⟨#[]⟩ = W.mods[n] := by rw [List.getD_eq_getElem?_getD, List.getElem?_eq_getElem hm] <;> rfl
      have e2 : xs.getD n 0 = xs[n] := by rw [List.getD_eq_getElem?_getD, List.getElem?_eq_getElem hn] <;> rfl
      rw [ih', e1, e2]
      by_cases hmn : m = W.mods[n]
      · subst hmn
        rw [if_pos rfl, idx_nd o hm, List.getElem?_take_of_lt (Nat.lt_succ_self n), List.getElem?_eq_getElem hn] <;> rfl
      · rw [if_neg fun z => hmn (Sum.inr.inj z)]
        have hne : W.mods.idxOf m ≠ n := fun z => by
          have hlt : W.mods.idxOf m < W.mods.length := by omega
          have := List.getElem_idxOf hlt
          simp only [z] at this
          exact hmn this.symm
        congr 1
        rcases Nat.lt_or_gt_of_ne hne with hlt | hgt
        · rw [List.getElem?_take_of_lt hlt, List.getElem?_take_of_lt (Nat.lt_succ_of_lt hlt)]
        · rw [List.getElem?_eq_none (by rw [List.length_take]; omega), List.getElem?_eq_none (by rw [List.length_take]; omega)]
  have := key xs.length (Nat.le_refl _)
  rw [List.take_length] at this
  unfold zipKV gOf
  rw [Nat.min_eq_right hl]
  exact this
/-- a partial state of the first i modules -/
structure PSt (W : Wr) (i : Nat) (xs : List Nat) : Prop where
  len : xs.length = i
  th : ∀ (j : Nat) (k : Nat), xs[j]? = some k → ((k : Nat) : Int) ∈ W.there (W.mods.getD j ⟨#[]⟩)
  ag : Agree W (gOf W xs)
theorem PSt.ok {W : Wr} (o : WOk W) {xs : List Nat} (h : PSt W W.mods.length xs) : StOk W fun m => ((xs.getD (W.mods.idxOf m) 0 : Nat) : Int) := by
  have at_ : ∀ m, m ∈ W.mods → ∃ k, xs[W.mods.idxOf m]? = some k := fun m hm => ⟨_, List.getElem?_eq_getElem (by rw [h.len]; exact List.idxOf_lt_length_of_mem hm)⟩
  have get : ∀ {m k}, xs[W.mods.idxOf m]? = some k → xs.getD (W.mods.idxOf m) 0 = k := fun e => by rw [List.getD_eq_getElem?_getD, e] <;> rfl
  refine ⟨fun m hm => ?_, fun m ns n hns hn => ?_⟩
  · obtain ⟨k, hk⟩ := at_ m hm
    have := h.th _ k hk
    rw [get hk]
    have hlt := List.idxOf_lt_length_of_mem hm
    have e : W.mods.getD (W.mods.idxOf m) ⟨#[]⟩ = m := by rw [List.getD_eq_getElem?_getD, List.getElem?_eq_getElem hlt, List.getElem_idxOf hlt] <;> rfl
    rwa [e] at this
  · obtain ⟨i, hi⟩ := at_ m (us_mem hns)
    obtain ⟨j, hj⟩ := at_ n ((o.ns m ns hns).2 n hn).1
    have := h.ag m ns n i j hns hn hi hj
    rw [get hi, get hj]
    have e : ((i : Nat) : Int).toNat = i := by omega
    rw [e]
    exact this
theorem gOf_snoc {W : Wr} (o : WOk W) {xs : List Nat} (hi : xs.length < W.mods.length) (k : Nat) (m : PySem.Str) : gOf W (xs ++ [k]) m = if m = W.mods[xs.length] then some k else gOf W xs m := by
  unfold gOf
  by_cases h : m = W.mods[xs.length]
  · rw [if_pos h, h, idx_nd o hi, List.getElem?_append_right (Nat.le_refl _), Nat.sub_self] <;> rfl
  · rw [if_neg h]
    have hne : W.mods.idxOf m ≠ xs.length := fun z => by
      have hlt : W.mods.idxOf m < W.mods.length := by omega
      have := List.getElem_idxOf hlt
      simp only [z] at this
      exact h this.symm
    rcases Nat.lt_or_gt_of_ne hne with hlt | hgt
    · rw [List.getElem?_append_left hlt]
    · rw [List.getElem?_eq_none (by rw [List.length_append, List.length_singleton]; omega), List.getElem?_eq_none (by omega)]
end Gs

set_option Elab.async false
set_option linter.all false
set_option maxRecDepth 100000
set_option maxHeartbeats 4000000
/-! GsStates: _law_states. -/
namespace Gs
open PySem PySem.Spec PyProof.Rows L2 Evl
/-- the consistent states: a list of tuples of versions -/
def mStates (W : Wr) : MP := ⟨fun v H => ∃ (l : Addr) (SS : List (List Nat)) (xs : List V), v = .ref l ∧ H l = some (.lst xs) ∧ F2 (fun ss x => (mTU ss).p x H) SS xs ∧ SS.length ≤ 100000 ∧ ∀ s ∈ SS, PSt W W.mods.length s, fun e ⟨l, SS, xs, h1, h2, h3, h4⟩ => ⟨l, SS, xs, h1, e _ _ h2, h3.mono2 fun a x h => (mTU a).mono e h, h4⟩⟩
theorem ji_enumL {σ : L2.St} {N : Hp} {ta : TA} {K : PySem.W.Frag} {l : Addr} {xs : List V} (h : EvAP ta σ N (lCons (mIs (.ref l)) lNil)) (hl : SqL K N l xs) : JI (iEnum K ta) σ N xs.length fun j => ⟨fun x H => ∃ T y, x = .ref T ∧ xs[j]? = some y ∧ H T = some (.tup [.int (j : Nat), y]), fun e ⟨T, y, h1, h2, h3⟩ => ⟨T, y, h1, h2, e _ _ h3⟩⟩ := fun C eC R k =>
  h C eC _ fun vs N1 C1 g p => by
    obtain ⟨v, rfl, rfl⟩ := la1 p
    have s1 := ex_l g.up hl
    refine ⟨l, xs, rfl, ex_l g.sub s1, k _ N1 C1 g ⟨fun i H hi e => ⟨xs, xs[i], ex_l e s1, List.getElem?_eq_getElem hi⟩, fun H e => ⟨xs, ex_l e s1, Nat.le_refl _⟩, fun i H x H' hi e y => ?_⟩⟩
    have y' : ∃ T x0, x = .ref T ∧ H T = none ∧ H' = upd H T (.tup [.int (i : Nat), x0]) ∧ ∀ xs, SqL K H l xs → xs[i]? = some x0 := y
    obtain ⟨T, x0, rfl, hT, rfl, h2⟩ := y'
    exact ⟨upd N1 T (.tup [.int (i : Nat), x0]), (Gr.refl e).new hT, T, x0, rfl, h2 xs (ex_l e s1), upd_same⟩
section
variable {P : Program} {w : World} {K : PySem.W.Frag} {mg : PySem.Str → Option Value} {base : Heap}
def preStates (K : PySem.W.Frag) (vs : List V) (N : Hp) (P : MP) : Prop := ∃ b W, vs = [.ref b.w] ∧ WldAt K N b W ∧ WOk W ∧ P = mStates W
theorem dom_new {N C N' C' : Hp} (g : Gr N C N' C') {l : Addr} {o : HO} (h : N' l = some o) (h0 : N l = none) (ht : ∀ xs, o ≠ .tup xs) : C l = none := by
  rcases g.dom l o h with ⟨u, hu⟩ | hn | ⟨xs, hx⟩
  · rw [h0] at hu; cases hu
  · exact hn
  · exact absurd hx (ht xs)
theorem pow10 {a b : Nat} (h : a ≤ b) : a * 10 ≤ b * 10 := Nat.mul_le_mul_right 10 h
theorem ok_states (F : DF K mg "_law_states" (top 61)) (B : Bt mg) (c1 : Cl P w K mg base 2 "_law_conflicts" (preConf K)) : Cl P w K mg base 3 "_law_states" (preStates K) := by
  refine cl_of (N := ["_law_world_here", "_law_found", "_law_place", "_law_name_here", "_law_longer", "_law_some", "_law_state", "_law_version"]) (ps := ["_law_world_here"]) F (by decide +kernel) (fun vs M Pm h => ?_) (fun _ _ _ _ _ _ us hl => match us, hl with | [_], _ => rfl) fun f cdv A outer s C E vs M Pm D hr eM h rt nx => ?_
  · obtain ⟨b, W, rfl, _⟩ := h; rfl
  obtain ⟨b, W, rfl, hw, wo, rfl⟩ := h
  have hN : (["_law_world_here", "_law_found", "_law_place", "_law_name_here", "_law_longer", "_law_some", "_law_state", "_law_version"] : List PySem.Str).Nodup := by decide
  have hm3 : W.mods.length ≤ 3 := by unfold Wr.mods; rw [List.length_map]; exact wo.few
  refine r_set 1 (N := M) (P := mLM M [([] : List Nat)] mTU) ?_ eM hN fun v1 N1 C1 g1 p1 => ?_
  · refine j_of (pe_lst pA) fun C0 eC Q q => le_A (pa_cons pE pa_nil) ((j_tup0 : J _ _ _ M _) C0 eC _ fun y N2 C2 g2 py => ?_)
    refine ⟨sz_of (by show 1 ≤ 100000; decide), fun p hp => q (.ref p) (upd N2 p (.lst [y])) _ (g2.new hp) ⟨p, [y], rfl, fresh_back g2.up (fresh_back g2.sub hp), upd_same, .cons ((mTU []).mono (Ex.new (fresh_back g2.sub hp)) py) .nil⟩⟩
  obtain ⟨lf, xf, rfl, hlf0, hlfN, hf⟩ := p1
  have st0 : ∀ s ∈ [([] : List Nat)], PSt W 0 s := fun s hs => by
    have : s = [] := by simpa using hs
    subst this
    exact ⟨rfl, fun j k h => by simp at h, fun m ns n i j _ _ h => by simp [gOf] at h⟩
  refine r_for (N := N1) (n := (W.mods.map V.str).length) (pi_enum rfl B.enum pA) (ji_enumL (K := K) (ja_cons (j_wmo (hw.mono g1.up) (hu_of hr) (jv 0)) ja_nil) (SqL.of (hw.mono g1.up).mo)) g1.sub (pg_tup rfl (pgs_cons (pg_name (i := 2) hN rfl (Or.inl rfl)) (pgs_cons (pg_name (i := 3) hN rfl (Or.inl rfl)) pgs_nil))) PassesOwn.never rfl
    (fun N2 i σ C2 => ∃ Mi lf xs SS o2 o3 o4 o5 o6 o7, Gr M C Mi C2 ∧ Ex N2 Mi ∧ Mi lf = some (.lst xs) ∧ F2 (fun ss x => (mTU ss).p x Mi) SS xs ∧ SS.length ≤ 10 ^ i ∧ (∀ s ∈ SS, PSt W i s) ∧ σ = [some (.ref b.w), some (.ref lf), o2, o3, o4, o5, o6, o7])
    (fun N2 C2 g2 => ⟨N2, lf, xf, [[]], none, none, none, none, none, none, g1.trans g2, Ex.refl _, g2.up _ _ hlfN, hf.mono2 fun a x h => (mTU a).mono g2.up h, Nat.le_refl _, st0, rfl⟩) (fun N2 i σ C2 ⟨Mi, _, _, _, _, _, _, _, _, _, h1, h2, _⟩ => h2.trans h1.sub) (fun N2 i x σ C2 M2 C3 e2 hi hP2 gM hx => ?_) fun N2 σ C2 e2 hP2 => ?_
  · obtain ⟨Mi, lf, xs, SS, o2, o3, o4, o5, o6, o7, gi, eNi, hlf, hfx, hSl, hSt, rfl⟩ := hP2
    obtain ⟨gm2, em2⟩ := gM.more eNi gi.sub
    obtain ⟨T, y, rfl, hy, hT⟩ := hx
    rw [List.length_map] at hi
    rw [List.getElem?_map, List.getElem?_eq_getElem hi] at hy
    have hy' : V.str W.mods[i] = y := Option.some.inj hy
    subst hy'
    have g3 := gi.trans gm2
    refine gp2 (SqT.of (gm2.sub _ _ (em2 _ _ hT))) ?_
    have hm : W.mods[i] ∈ W.mods := List.getElem_mem hi
    -- longer = []
    refine r_set 4 (N := un Mi M2) (P := mNL (un Mi M2) K (· = [])) (j_lstN ja_nilD) g3.sub hN fun v4 N4 C4 g4 p4 => ?_
    obtain ⟨ll, xl, dl, M4, rfl, gl, hl4, hlC, hdx, rfl⟩ := out_list g4 p4 fun ds h d hd => by subst h; cases hd
    have hxl : xl = [] := by cases hdx; rfl
    subst hxl
    have g5 : Gr M C M4 C4 := g3.trans gl
    have hCl : C ll = none := by
      obtain ⟨l', xs', ds', h1, h2, h3, h4⟩ := p4
      cases h1
      exact fresh_back g3.ext (dom_new g4 h3 h2 fun _ z => by cases z)
    have hlf5 := gl.up _ _ (gm2.up _ _ hlf)
    have hfx5 := hfx.mono2 fun a x h => (mTU a).mono (gm2.up.trans gl.up) h
    have p10 : 10 ^ i ≤ 100 := by
      have : i ≤ 2 := by omega
      exact Nat.pow_le_pow_right (by decide) this
    refine r_for (N := M4) (n := SS.length) (pi_list pE) (ji_listM (K := K) (as := SS) (E := mTU) (J.ev (jv 1)) hlf5 hfx5) gl.sub (pg_name (i := 5) hN rfl (Or.inl rfl)) PassesOwn.never rfl
      (fun N6 j σ C6 => ∃ Mj ys S2 o5 o6 o7, Gr M C Mj C6 ∧ Ex N6 Mj ∧ Ex M4 Mj ∧ Mj ll = none ∧ C6 ll = some (.lst ys) ∧ F2 (fun ss x => (mTU ss).p x Mj) S2 ys ∧ S2.length ≤ j * 10 ∧ (∀ s ∈ S2, PSt W (i + 1) s) ∧ σ = [some (.ref b.w), some (.ref lf), some (.int (i : Nat)), some (.str W.mods[i]), some (.ref ll), o5, o6, o7])
      (fun N6 C6 g6 => ⟨N6, [], [], o5, o6, o7, g5.trans g6, Ex.refl _, g6.up, g6.out hl4 hlC, g6.ext _ _ hlC, .nil, Nat.zero_le _, fun s hs => (by cases hs), rfl⟩) (fun N6 j σ C6 ⟨Mj, _, _, _, _, _, h1, h2, _⟩ => h2.trans h1.sub) (fun N6 j x σ C6 M7 C7 e6 hj hP6 gM6 hx => ?_) fun N6 σ C6 e6 hP6 => ?_
    · obtain ⟨Mj, ys, S2, p5, p6, p7, gj, eNj, eMj, hlj, hCj, hfy, hS2, hSt2, rfl⟩ := hP6
      obtain ⟨gm7, em7⟩ := gM6.more eNj gj.sub
      obtain ⟨ss, hss, hx⟩ := hx
      have hx7 := (mTU ss).mono em7 hx
      have hps := hSt ss (List.mem_of_getElem? hss)
      have g8 := gj.trans gm7
      have hw8 := hw.mono g8.up
      have hl7 := gm7.out hlj hCj
      have hC7 := gm7.ext _ _ hCj
      refine r_set 6 (N := un Mj M7) (P := mDK (un Mj M7) (mergeK [] (zipKV W.mods ss))) (j_dictZip rfl (j_wmo hw8 (hu_of hr) (jv 0)) hw8.mo (j_var 5 hx7) (by omega) B.zip B.list B.dict) g8.sub hN fun v9 N9 C9 g9 p9 => ?_
      obtain ⟨sd, rfl, hs0, hsN⟩ := p9
      have hsC : C7 sd = none := dom_new g9 hsN hs0 fun _ z => by cases z
      have hCsd : C sd = none := fresh_back g8.ext hsC
      -- the part without the state dict
      have gA : Gr (un Mj M7) C7 (L2.del N9 sd) C9 := g9.del hs0
      have hAs : (L2.del N9 sd) sd = none := del_same
      have gB := g8.trans gA
      have hwA := hw.mono gB.up
      have hlA : (L2.del N9 sd) ll = none := gA.out hl7 hC7
      have hCA := gA.ext _ _ hC7
      have hcs := there_len wo W.mods[i]
      have hxA := (mTU ss).mono gA.up hx7
      have ezip := zip_val wo (xs := ss) (by rw [hps.len]; omega)
      have hzl : (mergeK [] (zipKV W.mods ss)).length ≤ 10 := by
        have h1 := length_mergeK (zipKV W.mods ss) []
        have h2 : (zipKV W.mods ss).length ≤ 3 := by
          unfold zipKV
          rw [List.length_map, List.length_range]
          omega
        simp only [List.length_nil] at h1
        omega
      refine r_for (N := L2.del N9 sd) (n := ((W.there W.mods[i]).map PyData.int).length) (I := fun k => mR K fun d => ((W.there W.mods[i]).map PyData.int)[k]? = some d) (pi_list pE) (ji_list ((j_wthM hwA hm (hu_of hr) (jv 0) (jv 3)).val (hwA.thr hm))) gA.sub (pg_name (i := 7) hN rfl (Or.inl rfl)) PassesOwn.never rfl
        (fun Na k σ Ca => ∃ Mk zs S3 kvs o7, Gr M C Mk Ca ∧ Ex Na Mk ∧ Ex (L2.del N9 sd) Mk ∧ Mk ll = none ∧ Ca ll = some (.lst zs) ∧ F2 (fun ss x => (mTU ss).p x Mk) S3 zs ∧ S3.length ≤ j * 10 + k ∧ (∀ s ∈ S3, PSt W (i + 1) s) ∧ Mk sd = none ∧ Ca sd = some (.dK kvs) ∧ kvs.length ≤ 10 + k ∧ (∀ m, m ≠ W.mods[i] → valV kvs (.inr m) = (gOf W ss m).map fun k : Nat => V.int (k : Int)) ∧ σ = [some (.ref b.w), some (.ref lf), some (.int (i : Nat)), some (.str W.mods[i]), some (.ref ll), some x, some (.ref sd), o7])
        (fun Na Ca ga => ⟨Na, ys, S2, mergeK [] (zipKV W.mods ss), p7, gB.trans ga, Ex.refl _, ga.up, ga.out hlA hCA, ga.ext _ _ hCA, hfy.mono2 fun a x h => (mTU a).mono (gm7.up.trans (gA.up.trans ga.up)) h, by omega, hSt2, ga.outO hAs (g9.sub _ _ hsN) (fun _ z => by cases z), ga.ext _ _ (g9.sub _ _ hsN), by omega, fun m _ => ezip m, rfl⟩) (fun Na k σ Ca ⟨Mk, _, _, _, _, h1, h2, _⟩ => h2.trans h1.sub) (fun Na k x2 σ Ca Mb Cb ea hk hPa gMa hx2 => ?_) fun Na σ Ca ea hPa => ?_
      · obtain ⟨Mk, zs, S3, kvs, o7', gk, eNk, eAk, hlk, hCk, hfz, hS3, hSt3, hsk, hCs, hkl, hval, rfl⟩ := hPa
        obtain ⟨gmb, emb⟩ := gMa.more eNk gk.sub
        obtain ⟨d, hd1, hd2⟩ := hx2
        rw [List.length_map] at hk
        rw [List.getElem?_map, List.getElem?_eq_getElem hk] at hd1
        have hd1' : PyData.int (W.there W.mods[i])[k] = d := Option.some.inj hd1
        subst hd1'
        obtain rfl := dp_int hd2
        have hmem : (W.there W.mods[i])[k] ∈ W.there W.mods[i] := List.getElem_mem hk
        obtain ⟨kv, hkv, hkv2, hkv3⟩ := there_mem.mp hmem
        rw [hkv] at hmem ⊢
        have gc := gk.trans gmb
        have hsb : (un Mk Mb) sd = none := gmb.outO hsk hCs fun _ z => by cases z
        have hCsb := gmb.ext _ _ hCs
        have hlb := gmb.out hlk hCk
        have hClb := gmb.ext _ _ hCk
        refine r_dput (N := un Mk Mb) (s := sd) (kvs := kvs) (k := .inr W.mods[i]) (v := .int (kv : Int)) (hu_of hr) (jv 7) (jv 6) (jv 3) gc.sub hCsb (by omega) fun Cd ed => ?_
        -- the state with the version
        generalize hkv' : putK kvs (Sum.inr W.mods[i]) (V.int (kv : Int)) = kvs2
        have hnl : ss.length < W.mods.length := by rw [hps.len]; exact hi
        have el : W.mods[ss.length] = W.mods[i] := by congr 1; exact hps.len
        have hval2 : ∀ m, valV kvs2 (.inr m) = (gOf W (ss ++ [kv]) m).map fun k : Nat => V.int (k : Int) := fun m => by
          rw [← hkv', valV_put, gOf_snoc wo hnl kv m, el]
          by_cases hme : m = W.mods[i]
          · rw [if_pos (by rw [hme]), if_pos hme] <;> rfl
          · rw [if_neg fun z => hme (Sum.inr.inj z), if_neg hme]
            exact hval m hme
        have hkl2 : kvs2.length ≤ 10 + (k + 1) := by
          rw [← hkv']
          unfold putK
          split
          · rw [List.length_map]; omega
          · rw [List.length_append, List.length_singleton]; omega
        have gd : Gr M C (un Mk Mb) (upd Cd sd (.dK kvs2)) := (gc.grow ed).mut hCsd hsb
        have hCl2 : (upd Cd sd (.dK kvs2)) ll = some (.lst zs) := by
          rw [upd_ne (fun z => by rw [z, hCsb] at hClb; cases hClb)]
          exact ed _ _ hClb
        -- with the state dict in the part, for the test alone
        have ge : Gr M C (upd (un Mk Mb) sd (.dK kvs2)) (upd Cd sd (.dK kvs2)) := gd.take upd_same hCsd (fresh_back gc.up hsb)
        have hwe := hw.mono ge.up
        have hthr : ∀ m i2, gOf W (ss ++ [kv]) m = some i2 → i2 < W.cnt m := fun m i2 h2 => by
          rw [gOf_snoc wo hnl kv m, el] at h2
          by_cases hme : m = W.mods[i]
          · rw [if_pos hme] at h2; cases h2; rw [hme]; exact hkv2
          · rw [if_neg hme] at h2
            unfold gOf at h2
            have h3 := hps.th _ i2 h2
            have hlt : W.mods.idxOf m < W.mods.length := by
              have := (List.getElem?_eq_some_iff.mp h2).1
              omega
            have e3 : W.mods.getD (W.mods.idxOf m) ⟨#[]⟩ = m := by rw [List.getD_eq_getElem?_getD, List.getElem?_eq_getElem hlt, List.getElem_idxOf hlt] <;> rfl
            rw [e3] at h3
            obtain ⟨k3, h4, h5, _⟩ := there_mem.mp h3
            omega
        refine r_ifB (N := upd (un Mk Mb) sd (.dK kvs2)) (A := fun t => t = true → Agree W (gOf W (ss ++ [kv]))) (jb_cmpP (op_eqD hr.units) (j_call c1 hr (ja_cons (jv 0) (ja_cons (jv 6) ja_nil)) (P := mNL (upd (un Mk Mb) sd (.dK kvs2)) K fun ds => (∀ d ∈ ds, okP d) ∧ (ds = [] → Agree W (gOf W (ss ++ [kv])))) fun vs M' g p => ?_) (j_lst (K := K) ja_nilD) fun x y M' g hx hy C0 eC Q q => ?_) ge.sub (fun hA Ce ee => ?_) fun hA Ce ee => ?_
        · obtain ⟨x, y, rfl, rfl, rfl⟩ := la2 p
          exact ⟨b, W, sd, gOf W (ss ++ [kv]), rfl, hwe.mono g, wo, ⟨kvs2, g _ _ upd_same, hval2⟩, hthr, fun v H p => mNL_up (R' := fun ds => (∀ d ∈ ds, okP d) ∧ (ds = [] → Agree W (gOf W (ss ++ [kv])))) g p fun _ h => h⟩
        · obtain ⟨l9, xs9, ds9, rfl, q1, q2, q3, q4, q5⟩ := hx
          refine ⟨.list ds9, .list [], dp_mono eC (.lst (SqL.of q2) q3), dp_mono eC hy, shapedL fun d hd => q4 d hd, rfl, ?_⟩
          refine q _ M' C0 (Gr.refl eC) ⟨_, rfl, fun ht => q5 ?_⟩
          cases ds9 with
          | nil => rfl
          | cons d r => cases ht
        · -- appended
          have hag := hA rfl
          have hfb := hfz.mono2 fun a x h => (mTU a).mono gmb.up h
          refine r_app (l := ll) (xs := zs) (N := un Mk Mb) (jv 4) (j_cat (xs := ss) (ys := [kv]) (j_var 5 ((mTU ss).mono (eAk.trans gmb.up) hxA)) (j_tup1 (jv 7)) (by simp) (by rw [hps.len]; simp; omega)) (gd.sub.trans ee) hlb (ee _ _ hCl2) (by rw [hfz.len]; omega) fun v N' Cf gf hf1 pf => ?_
          have g9' := (gd.grow ee).trans gf
          have hsf : N' sd = none := gf.outO hsb (ee _ _ upd_same) fun _ z => by cases z
          have hCsf : Cf sd = some (.dK kvs2) := gf.ext _ _ (ee _ _ upd_same)
          refine r_nil (r_nil ⟨N', zs ++ [v], S3 ++ [ss ++ [kv]], kvs2, some (.int (kv : Int)), g9'.mut hCl hf1, eNk.trans (gmb.up.trans gf.up), eAk.trans (gmb.up.trans gf.up), hf1, upd_same, (hfb.mono2 fun a x h => (mTU a).mono gf.up h).app pf, ?_, fun s hs => ?_, hsf, ?_, by omega, fun m _ => ?_, rfl⟩)
          · rw [List.length_append, List.length_singleton]; omega
          · rcases List.mem_append.mp hs with hs | hs
            · exact hSt3 s hs
            · have : s = ss ++ [kv] := by simpa using hs
              subst this
              refine ⟨by rw [List.length_append, List.length_singleton, hps.len], fun j2 k2 h2 => ?_, hag⟩
              rcases Nat.lt_or_ge j2 ss.length with hlt | hge
              · rw [List.getElem?_append_left hlt] at h2
                exact hps.th j2 k2 h2
              · rw [List.getElem?_append_right hge] at h2
                have hj2 : j2 - ss.length = 0 := by
                  have := (List.getElem?_eq_some_iff.mp h2).1
                  simp at this
                  omega
                rw [hj2] at h2
                have h2' : kv = k2 := by simpa using h2
                subst h2'
                have ej : j2 = i := by have := hps.len; omega
                subst ej
                have e3 : W.mods.getD j2 ⟨#[]⟩ = W.mods[j2] := by rw [List.getD_eq_getElem?_getD, List.getElem?_eq_getElem hi] <;> rfl
                rw [e3]
                exact hmem
          · rw [upd_ne (fun z => by rw [z, gf.ext _ _ (ee _ _ hCl2)] at hCsf; cases hCsf)]
            exact hCsf
          · have hme := ‹m ≠ W.mods[i]›
            rw [hval2 m, gOf_snoc wo hnl kv m, el, if_neg hme]
        · have hfb := hfz.mono2 fun a x h => (mTU a).mono gmb.up h
          refine r_nil (r_nil ⟨un Mk Mb, zs, S3, kvs2, some (.int (kv : Int)), gd.grow ee, eNk.trans gmb.up, eAk.trans gmb.up, hlb, ee _ _ hCl2, hfb, by omega, hSt3, hsb, ee _ _ upd_same, by omega, fun m hme => ?_, rfl⟩)
          rw [hval2 m, gOf_snoc wo hnl kv m, el, if_neg hme]
      · obtain ⟨Mk, zs, S3, kvs, o7', gk, eNk, eAk, hlk, hCk, hfz, hS3, hSt3, hsk, hCs, hkl, hval, rfl⟩ := hPa
        rw [List.length_map] at hS3
        have e0 : Ex Mj (L2.del N9 sd) := gm7.up.trans gA.up
        exact r_nil ⟨Mk, zs, S3, some x, some (.ref sd), o7', gk, eNj.trans (e0.trans eAk), eMj.trans (e0.trans eAk), hlk, hCk, hfz, by omega, hSt3, rfl⟩
    · obtain ⟨Mj, ys, S2, p5, p6, p7, gj, eNj, eMj, hlj, hCj, hfy, hS2, hSt2, rfl⟩ := hP6
      have gj2 : Gr M C (upd Mj ll (.lst ys)) C6 := gj.take hCj hCl (fresh_back gj.up hlj)
      refine r_set 1 (N := upd Mj ll (.lst ys)) (P := mIs (.ref ll)) (jv 4) gj2.sub hN fun v9 N9 C9 g9 p9 => ?_
      have p9' : v9 = V.ref ll := p9
      subst p9'
      refine r_nil ⟨N9, ll, ys, S2, some (.int (i : Nat)), some (.str W.mods[i]), some (.ref ll), p5, p6, p7, gj2.trans g9, (eNi.trans (gm2.up.trans gl.up)).trans (eMj.trans ((Ex.new hlj).trans g9.up)), g9.up _ _ upd_same, hfy.mono2 fun a x h => (mTU a).mono ((Ex.new hlj).trans g9.up) h, ?_, hSt2, rfl⟩
      rw [Nat.pow_succ]
      exact Nat.le_trans hS2 (pow10 hSl)
  · obtain ⟨Mi, lf, xs, SS, o2, o3, o4, o5, o6, o7, gi, eNi, hlf, hfx, hSl, hSt, rfl⟩ := hP2
    rw [List.length_map] at hSl hSt
    refine r_ret (N := Mi) (P := mStates W) (j_var 1 ⟨lf, SS, xs, rfl, hlf, hfx, ?_, hSt⟩) gi.sub fun v N' C' g p => rt v N' C' (gi.trans g) p
    have : 10 ^ W.mods.length ≤ 10 ^ 3 := Nat.pow_le_pow_right (by decide) hm3
    omega
end
end Gs

set_option Elab.async false
set_option linter.all false
set_option maxRecDepth 100000
set_option maxHeartbeats 4000000
/-! GsLaw1: _law_following, _law_meets. -/
namespace Gs
open PySem PySem.Spec PyProof.Rows L2 Evl
section
variable {X : Cx} {a b e : Expr} {σ : L2.St} {N N1 N2 : Hp} {P1 P2 P : MP} {pos p2 : Pos} {K : PySem.W.Frag} {ds : List PyData} {k : Nat}
theorem hu65 {A : Around} {k : Nat} (hr : Room k A) : A.units + 65 < cLine := by have := hr.un; omega
theorem rv_eqNil {N : Hp} {x y : V} {ds : List PyData} (hs : SeqAt.shaped (.list ds) = true) (hx : Dp K N x (.list ds)) (hy : Dp K N y (.list [])) : RV (rEqD K) x y N (.bl (decide (ds = []))) := rv_val fun H1 e Q q => ⟨.list ds, .list [], dp_mono e hx, dp_mono e hy, hs, rfl, by
  have : (PyData.eqv (.list ds) (.list [])) = decide (ds = []) := by
    cases ds with
    | nil => rfl
    | cons d r => rfl
  rw [this]; exact q⟩
theorem j_catL {R1 R2 : List PyData → Prop} (ha : J X a σ N (mNL N1 K R1)) (hb : J X b σ N (mNL N2 K R2)) (hz : ∀ d1 d2, R1 d1 → R2 d2 → d1.length + d2.length ≤ 100000) : J X (.BinOp a .Add b pos) σ N (mNL N K fun ds => ∃ d1 d2, R1 d1 ∧ R2 d2 ∧ ds = d1 ++ d2) :=
  j_opP op_cat ha hb fun x y M g ⟨l, xs, d1, h1, _, h2, h3, h4⟩ ⟨l2, ys, d2, h5, _, h6, h7, h8⟩ C eC Q q => by
    subst h1 h5
    refine ⟨l, l2, xs, ys, rfl, rfl, eC _ _ h2, eC _ _ h6, by rw [dps_len h3, dps_len h7]; exact sz_of (hz d1 d2 h4 h8), fun p hp => ?_⟩
    have hn : M p = none := fresh_back eC hp
    exact q (.ref p) (upd M p (.lst (xs ++ ys))) _ ((Gr.refl eC).new hp) ⟨p, _, _, rfl, fresh_back g hn, upd_same, dps_mono (Ex.new hn) (dps_append h3 h7), d1, d2, h4, h8, rfl⟩
theorem j_headCat {d1 d2 r : List PyData} {d : PyData} {j : Nat} {pc p3 : Pos} (ha : J X a σ N (mNL N1 K (· = d1))) (hb : J X b σ N (mNL N2 K (· = d2))) (h : d1 ++ d2 = d :: r) (hz : d1.length + d2.length ≤ 100000) (hK : X.K = K := by rfl) (hs : PlainIx (.Constant (.int 0) j pc) := by exact fun _ _ => rfl) : J X (.Subscript (.BinOp a .Add b p3) (.Constant (.int 0) j pc) pos) σ N (mD K d) :=
  j_ixL ((j_catL ha hb fun e1 e2 h1 h2 => by rw [h1, h2]; exact hz).imp fun y M' g p => mNL_D (ds := d :: r) p fun es ⟨e1, e2, h1, h2, h3⟩ => by rw [h3, h1, h2, h]) j_int (atI_nat (i := 0) rfl) hK hs
theorem cutV_to {xs : List V} {k : Nat} (h : k ≤ xs.length) : cutV xs none (some (k : Int)) = xs.take k := by
  unfold cutV
  rw [HT.sIx_none, HT.sIx_nat, List.drop_zero, Nat.sub_zero, Nat.min_eq_left h]
theorem dps_take {H : Hp} : ∀ {vs : List V} {ds : List PyData} (k : Nat), DpAll K H vs ds → DpAll K H (vs.take k) (ds.take k)
  | _, _, 0, _ => by rw [List.take_zero, List.take_zero]; exact .nil
  | _, _, k + 1, .nil => .nil
  | _, _, k + 1, .cons h r => .cons h (dps_take k r)
theorem j_takeL (he : J X e σ N (mD X.K (.list ds))) (hb : J X b σ N (mIs (.int (k : Int)))) (hk : k ≤ ds.length) : J X (.Subscript e (.Slice none (some b) none p2) pos) σ N (mD X.K (.list (ds.take k))) :=
  j_of (pe_slice sl_list pE po_none (po_some pE)) fun C eC Q q => he C eC _ fun v N1 C1 g p => by
    obtain ⟨l, xs, rfl, s, al⟩ := dp_lst p
    refine hb.ev C1 (g.up.trans g.sub) _ fun C2 e2 => ⟨_, rfl, l, xs, rfl, ex_l (g.sub.trans e2) s, fun p hp => ?_⟩
    have g2 := g.grow e2
    have hn : N1 p = none := fresh_back g2.sub hp
    refine q (.ref p) (upd N1 p (.lst _)) _ (g2.new hp) (.lst (SqL.of upd_same) ?_)
    rw [cutV_to (by rw [dps_len al]; exact hk)]
    exact dps_mono (Ex.new hn) (dps_take k al)
theorem eqv_dD (a b : PySem.Str × Int) : PyData.eqv (dD a) (dD b) = decide (a = b) := by
  obtain ⟨a1, a2⟩ := a
  obtain ⟨b1, b2⟩ := b
  show (PyData.eqv (.str a1) (.str b1) && (PyData.eqv (.int a2) (.int b2) && true)) = _
  show ((a1 == b1) && ((a2 == b2) && true)) = _
  rw [Bool.and_true]
  by_cases h1 : a1 = b1
  · by_cases h2 : a2 = b2
    · subst h1 h2; simp
    · simp [h2]
  · simp [h1]
theorem any_dD (l : List (PySem.Str × Int)) (d : PySem.Str × Int) : (l.map dD).any (fun z => PyData.eqv z (dD d)) = decide (d ∈ l) := by
  rw [List.any_map]
  induction l with
  | nil => rfl
  | cons x r ih =>
    rw [List.any_cons, ih]
    show (PyData.eqv (dD x) (dD d) || decide (d ∈ r)) = _
    rw [eqv_dD]
    by_cases h : x = d
    · subst h; simp
    · have h' : d ≠ x := fun z => h z.symm
      simp [h, h']
end
section
variable {X : Cx} {elt iter t1 t2 : Expr} {ifs : List Expr} {scope : Scope} {own : List (PySem.Str × Nat)} {pos spos py pt : Pos} {kk : Nat} {wi : TI} {σ : L2.St} {N C : Hp} {n : Nat} {I : Nat → MP} {K : PySem.W.Frag} {y : PySem.Str} {D : Ends} {rest : List Stmt}
theorem r_setLc2n (i0 : Nat) (E : Nat → PyData → Prop) (bs : Nat → Bool) (j k : Nat) (eN : Ex N C) (hc : X.calm = true) (hN : X.N.Nodup) (hi : PI X (.Tuple [t1, t2] kk pt) iter wi) (hw : JI wi σ N n I) (hn : n ≤ 100000) (ok : BlkOk X.N X.env.scope scope own) (hg : BlkIs X scope fun Y => PG Y (.Tuple [t1, t2] kk pt) (gTup X.K 2 (gCons (gName j) (gCons (gName k) gNil))))
    (hwp : ∀ x y, wipe (((wipe σ (own.map (·.2))).set j x).set k y) (own.map (·.2)) = wipe σ (own.map (·.2)))
    (hI : ∀ i x M, i < n → Ex N M → (I i).p x M → ∃ a v1 v2, x = .ref a ∧ SqT X.K M a [v1, v2] ∧ BlkIs X scope (fun Y => JTs Y ifs (((wipe σ (own.map (·.2))).set j (some v1)).set k (some v2)) M (bs i)) ∧ (bs i = true → BlkIs X scope fun Y => J Y elt (((wipe σ (own.map (·.2))).set j (some v1)).set k (some v2)) M (mR K (E i))))
    (kt : ∀ v N' C', Gr N C N' C' → (mNL N K (F2 E ((List.range n).filter bs))).p v N' → tR X rest D (σ.set i0 (some v)) C')
    (hy : X.N[i0]? = some y := by rfl) (hyl : X.env.scope.names.lookup y = some .local := by rfl) (hsw : swapsWith (.ListComp elt [⟨.Tuple [t1, t2] kk pt, iter, ifs, 0⟩] scope pos) (some (.Name y py)) spos.line X.env = pure true := by rfl)
    (hs : ∀ x, foldedSetIterable iter X.env x = pure x := by intro _; rfl) : tR X (.Assign [.Name y py] (.ListComp elt [⟨.Tuple [t1, t2] kk pt, iter, ifs, 0⟩] scope pos) spos :: rest) D σ C :=
  r_of (ps_setLc hc hN hy hyl hsw hi ok hg pTsb pEb hs) (ep_lc E bs hw hn (fun i x M hi' eM hp C eC => by
    obtain ⟨a, v1, v2, rfl, s, h1, h2⟩ := hI i x M hi' eM hp
    exact gp2 (ex_t eC s) ⟨hwp _ _, M, Gr.refl eC, evt h1, fun hb => evb (h2 hb)⟩) gm_tup2 C eN _ kt)
end
/-- a list of data, as it is read -/
theorem ji_enumD {σ : L2.St} {N : Hp} {ta : TA} {K : PySem.W.Frag} {ds : List PyData} (h : EvAP ta σ N (lCons (mD K (.list ds)) lNil)) : JI (iEnum K ta) σ N ds.length fun j => ⟨fun x H => ∃ T y d, x = .ref T ∧ ds[j]? = some d ∧ Dp K H y d ∧ H T = some (.tup [.int (j : Nat), y]), fun e ⟨T, y, d, h1, h2, h3, h4⟩ => ⟨T, y, d, h1, h2, dp_mono e h3, e _ _ h4⟩⟩ := fun C eC R k =>
  h C eC _ fun vs N1 C1 g p => by
    obtain ⟨v, rfl, hv⟩ := la1 p
    obtain ⟨l, xs, rfl, s1, al⟩ := dp_lst hv
    have hl : xs.length = ds.length := dps_len al
    refine ⟨l, xs, rfl, ex_l g.sub s1, k _ N1 C1 g ⟨fun i H hi e => ⟨xs, xs[i]'(by omega), ex_l e s1, List.getElem?_eq_getElem (by omega)⟩, fun H e => ⟨xs, ex_l e s1, by omega⟩, fun i H x H' hi e y => ?_⟩⟩
    have y' : ∃ T x0, x = .ref T ∧ H T = none ∧ H' = upd H T (.tup [.int (i : Nat), x0]) ∧ ∀ xs, SqL K H l xs → xs[i]? = some x0 := y
    obtain ⟨T, x0, rfl, hT, rfl, h2⟩ := y'
    obtain ⟨d, h3, h4⟩ := dps_get al (h2 xs (ex_l e s1))
    exact ⟨upd N1 T (.tup [.int (i : Nat), x0]), (Gr.refl e).new hT, T, x0, d, rfl, h3, dp_mono (Ex.new (fresh_back e hT)) h4, upd_same⟩
theorem dps_dD {K : PySem.W.Frag} {H : Hp} : ∀ {l : List (PySem.Str × Int)} {xs : List V}, F2 (fun d x => (mT2 (.str d.1) (.int d.2)).p x H) l xs → DpAll K H xs (l.map dD)
  | _, _, .nil => .nil
  | _, _, .cons ⟨b, h1, h2⟩ r => by
    subst h1
    exact .cons (.tup (SqT.of h2) (.cons (.str _) (.cons (.int _) .nil))) (dps_dD r)
section
variable {P : Program} {w : World} {K : PySem.W.Frag} {mg : PySem.Str → Option Value} {base : Heap}
/-- the places that reach, the first of them or the count -/
theorem reach_first (ws : List Wn) (t : Int) : (((List.range ws.length).filter fun i => reachB ((ws.getD i (0, none)).2) t) ++ [ws.length]).head? = some (firstR ws t) := by
  have key : ∀ n, n ≤ ws.length → (((List.range n).filter fun i => reachB ((ws.getD i (0, none)).2) t)).head? = if firstR ws t < n then some (firstR ws t) else none := by
    intro n
    induction n with
    | zero => intro _; simp
    | succ n ih =>
      intro h
      have ih' := ih (by omega)
      rw [range_filter]
      have hn : n < ws.length := h
      have eg : ws.getD n (0, none) = ws[n] := by rw [List.getD_eq_getElem?_getD, List.getElem?_eq_getElem hn] <;> rfl
      by_cases hr : reachB ((ws.getD n (0, none)).2) t = true
      · rw [if_pos hr, List.head?_append, ih']
        rw [eg] at hr
        have hle := firstR_le (List.getElem?_eq_getElem hn) hr
        by_cases hlt : firstR ws t < n
        · rw [if_pos hlt, if_pos (by omega)] <;> rfl
        · have : firstR ws t = n := by omega
          rw [if_neg hlt, if_pos (by omega), this] <;> rfl
      · rw [if_neg hr, ih']
        rw [eg] at hr
        by_cases hlt : firstR ws t < n
        · rw [if_pos hlt, if_pos (by omega)]
        · rw [if_neg hlt, if_neg]
          intro hlt2
          have e : firstR ws t = n := by omega
          have hl : firstR ws t < ws.length := by omega
          have h2 : reachB (ws[firstR ws t]).2 t = true := List.findIdx_getElem (w := hl)
          simp only [e] at h2
          exact hr h2
  rw [List.head?_append, key ws.length (Nat.le_refl _)]
  by_cases h : firstR ws t < ws.length
  · rw [if_pos h] <;> rfl
  · have : firstR ws t = ws.length := Nat.le_antisymm List.findIdx_le_length (by omega)
    rw [if_neg h, this] <;> rfl
def mFol (N : Hp) (K : PySem.W.Frag) (W : Wr) (m : PySem.Str) (i : Int) : MP := ⟨fun v H => match sett W m i with
  | some t => (mNL N K (· = (dueL W m t).map dD)).p v H
  | none => v = .non, fun {v H H'} e h => by
    cases hs : sett W m i with
    | some t => rw [hs] at h; exact (mNL N K _).mono e h
    | none => rw [hs] at h; exact h⟩
def preLFol (K : PySem.W.Frag) (vs : List V) (N : Hp) (P : MP) : Prop := ∃ b W v m i, vs = [.ref b.w, v] ∧ WldAt K N b W ∧ WOk W ∧ m ∈ W.mods ∧ Dp K N v (dD (m, i)) ∧ mle (mFol N K W m i) P
theorem okP_dem {W : Wr} (o : WOk W) {m : PySem.Str} (hm : m ∈ W.mods) (i : Int) : okP (dD (m, i)) := by
  refine ⟨?_, by simp [dD, PyData.depth, PyData.depthAll]⟩
  simp [dD, PyData.canLay0, PyData.canLayAll0, strOk_name (o.nm m hm)]
theorem shaped_of_okP {d : PyData} (h : okP d) : SeqAt.shaped d = true := by
  show (d.canLay0 && decide (d.depth ≤ 64)) = true
  rw [h.1, decide_eq_true (by have := h.2; omega)] <;> rfl
theorem found_mod {W : Wr} (o : WOk W) {m : PySem.Str} (hm : m ∈ W.mods) {t : Int} {d : PySem.Str × Int} (h : d ∈ foundL W m t) : d.1 ∈ W.mods := by
  unfold foundL at h
  rcases List.mem_append.mp h with h | h
  · obtain ⟨n, hn, rfl⟩ := List.mem_map.mp h
    obtain ⟨ns, hns⟩ := mem_us hm
    rw [o.usesOf hns] at hn
    exact ((o.ns m ns hns).2 n hn).1
  · obtain ⟨u, hu, rfl⟩ := List.mem_map.mp h
    obtain ⟨ns, hns, _⟩ := mem_users hu
    exact us_mem hns
theorem ok_law_following (F : DF K mg "_law_following" (top 62)) (B : Bt mg) : Cl P w K mg base 1 "_law_following" (preLFol K) := by
  refine cl_of (N := ["_law_world_here", "_law_demand", "_law_there", "_law_found", "_law_user", "_law_windows_here", "_law_reaching", "_law_version", "_law_used", "_law_name_here", "_law_k", "_law_window", "_law_one"]) (ps := ["_law_world_here", "_law_demand"]) F (by decide +kernel) (fun vs M Pm h => ?_) (fun _ _ _ _ _ _ us hl => match us, hl with | [_, _], _ => rfl) fun f cdv A outer s C E vs M Pm D hr eM h rt nx => ?_
  · obtain ⟨b, W, v, m, i, rfl, _⟩ := h; rfl
  obtain ⟨b, W, dv, m, v, rfl, hw, wo, hm, hd, hP⟩ := h
  have hN : (["_law_world_here", "_law_demand", "_law_there", "_law_found", "_law_user", "_law_windows_here", "_law_reaching", "_law_version", "_law_used", "_law_name_here", "_law_k", "_law_window", "_law_one"] : List PySem.Str).Nodup := by decide
  obtain ⟨ns, hns⟩ := mem_us hm
  have hu := wo.usesOf hns
  have huf := uses_few wo m
  have huf2 := users_few wo m
  have hl := there_len wo m
  have h65 := hu65 hr
  refine r_set 2 (N := M) (P := mNL M K (F2 (fun k d => d = .int ((W.there m).getD k 0)) ((List.range ((W.there m).map PyData.int).length).filter fun k => decide (v ≤ (W.there m).getD k 0)))) ?_ eM hN fun v1 N1 C1 g1 p1 => ?_
  · refine j_lc (own := [("_law_version", 7)]) (I := fun j => mR K fun d => ((W.there m).map PyData.int)[j]? = some d) _ _ 7 rfl hN (pi_list pE) (ji_list ((j_wthM hw hm (by exact hu_of hr) (jv 0) (J.str (j_ixT (ds := [.str m, .int v]) (j_var 1 (P := mD K (dD (m, v))) hd) j_int rfl))).val (hw.thr hm))) (by rw [List.length_map]; omega)
      (blk_by (N := ["_law_world_here", "_law_demand", "_law_there", "_law_found", "_law_user", "_law_windows_here", "_law_reaching", "_law_version", "_law_used", "_law_name_here", "_law_k", "_law_window", "_law_one"]) (sc := defScope (top 62)) (by decide +kernel)) (fun s0 H0 C0 cl fp => pg_name hN rfl (Or.inl rfl)) (fun x => rfl) fun k x M2 hk eM2 hx => ?_
    obtain ⟨d, h1, h2⟩ := hx
    rw [List.length_map] at hk
    rw [List.getElem?_map, List.getElem?_eq_getElem hk] at h1
    have h1' : PyData.int (W.there m)[k] = d := Option.some.inj h1
    subst h1'
    obtain rfl := dp_int h2
    have e : (W.there m).getD k 0 = (W.there m)[k] := by rw [List.getD_eq_getElem?_getD, List.getElem?_eq_getElem hk] <;> rfl
    rw [e]
    exact ⟨fun s0 H0 C0 cl fp => jts_one (jt_cmp op_ge (jv 7) (J.int (j_ixT (ds := [.str m, .int v]) (j_var 1 (P := mD K (dD (m, v))) (dp_mono eM2 hd)) j_int rfl)) rv_I0), fun _ s0 H0 C0 cl fp => (jv 7).imp fun y M3 g p => ⟨_, rfl, by
      have p' : y = V.int (W.there m)[k] := p
      subst p'
      exact .int _⟩⟩
  have hd1 : (mD K (.list (((W.there m).filter fun x => decide (v ≤ x)).map .int))).p v1 N1 := mNL_D p1 fun es h => by
    rw [F2.map h, List.length_map]
    exact filter_places (fun x : Int => decide (v ≤ x)) (fun x => PyData.int x) (W.there m) 0
  have sh := shaped_ints ((W.there m).filter fun x => decide (v ≤ x))
  refine r_if (N := N1) (jt_cmpP (op_eqD hr.units) (j_var 2 (P := mD K _) hd1) (j_lst (K := K) ja_nilD) fun x y M g hx hy => rp_rv (rv_eqNil sh hx hy) rfl) g1.sub (fun hb C2 e2 => ?_) fun hb C2 e2 => ?_
  · refine r_ret (N := N1) (P := mIs .non) j_non (g1.sub.trans e2) fun y N' C' g p => rt y N' C' ((g1.grow e2).trans g) (hP _ _ ?_)
    have hs : sett W m v = none := by
      unfold sett
      rw [List.map_eq_nil_iff.mp (of_decide_eq_true hb)] <;> rfl
    show (match sett W m v with
      | some t => _
      | none => _)
    rw [hs]
    exact p
  refine r_nil ?_
  cases ef : (W.there m).filter (fun x => decide (v ≤ x)) with
  | nil => rw [ef] at hb; simp at hb
  | cons t0 r0 =>
    have hs : sett W m v = some t0 := by unfold sett; rw [ef] <;> rfl
    obtain ⟨t, rfl, ht⟩ := sett_some hs
    rw [ef] at hd1
    have g2 := g1.grow e2
    have hw1 := hw.mono g1.up
    have hdm := dp_mono g1.up hd
    let f1 : PySem.Str → PySem.Str × Int := fun n => (n, ((W.win m n).getD ((t : Int)).toNat (0, none)).1)
    let g1' : Nat → PySem.Str × Int := fun k => f1 ((W.usesOf m).getD k ⟨#[]⟩)
    refine r_set 3 (N := N1) (P := mLM N1 ((List.range (strsD ns).length).filter fun _ => true) fun k => mT2 (.str (g1' k).1) (.int (g1' k).2)) ?_ g2.sub hN fun v3 N3 C3 g3 p3 => ?_
    · refine j_lcM (own := [("_law_used", 8)]) (I := fun j => mR K fun d => (strsD ns)[j]? = some d) _ _ 8 rfl hN (pi_list pE) (ji_list ((j_wusM hw1 hm (by exact hu_of hr) (jv 0) (J.str (j_ixT (ds := [.str m, .int v]) (j_var 1 (P := mD K (dD (m, v))) hdm) j_int rfl))).val (hw1.uses hns))) (by unfold strsD; rw [List.length_map, ← hu]; omega)
        (blk_by (N := ["_law_world_here", "_law_demand", "_law_there", "_law_found", "_law_user", "_law_windows_here", "_law_reaching", "_law_version", "_law_used", "_law_name_here", "_law_k", "_law_window", "_law_one"]) (sc := defScope (top 62)) (by decide +kernel)) (fun s0 H0 C0 cl fp => pg_name hN rfl (Or.inl rfl)) (fun x => rfl) fun k x M2 hk eM2 hx => ?_
      obtain ⟨d, h1, h2⟩ := hx
      unfold strsD at h1 hk
      rw [List.length_map] at hk
      rw [List.getElem?_map, List.getElem?_eq_getElem hk] at h1
      have h1' : PyData.str ns[k] = d := Option.some.inj h1
      subst h1'
      obtain rfl := dp_str h2
      have e : (W.usesOf m).getD k ⟨#[]⟩ = ns[k] := by rw [hu, List.getD_eq_getElem?_getD, List.getElem?_eq_getElem hk] <;> rfl
      have hmem : ns[k] ∈ ns := List.getElem_mem hk
      have hlen := wo.len m ns _ hns hmem
      have hq : (W.win m ns[k])[t]? = some ((W.win m ns[k])[t]'(by omega)) := List.getElem?_eq_getElem (by omega)
      refine ⟨fun s0 H0 C0 cl fp => jts_nil, fun _ s0 H0 C0 cl fp => ?_⟩
      show J _ _ _ _ (mT2 (.str (f1 ((W.usesOf m).getD k ⟨#[]⟩)).1) (.int (f1 ((W.usesOf m).getD k ⟨#[]⟩)).2))
      rw [e]
      have e2 : (f1 ns[k]).2 = ((W.win m ns[k])[t]'(by omega)).1 := by
        show ((W.win m ns[k]).getD ((t : Int)).toNat (0, none)).1 = _
        have et : ((t : Int)).toNat = t := by omega
        rw [et, List.getD_eq_getElem?_getD, hq] <;> rfl
      rw [e2]
      generalize (W.win m ns[k])[t]'(by omega) = q at hq
      have hw2 := hw1.mono eM2
      exact j_tup2 (jv 8) (J.int (j_ixT (ds := [.int q.1, hD q.2]) (j_ixL (ds := (W.win m ns[k]).map wD) (d := wD q) ((j_wwiM hw2 hns hmem (by exact hu_of hr) (jv 0) (J.str (j_ixT (ds := [.str m, .int v]) (j_var 1 (P := mD K (dD (m, v))) (dp_mono eM2 hdm)) j_int rfl)) (jv 8)).val (hw2.wns hns hmem)) (J.int (j_ixL (j_var 2 (P := mD K (.list (PyData.int (t : Int) :: r0.map PyData.int))) (dp_mono eM2 hd1)) j_int atI0)) (atI_map hq)) j_int rfl))
    obtain ⟨l, xs, M1, rfl, gl, hl1, hl0, hlC, hfx⟩ := outM g3 p3 fun _ => noLst_T2 _ _
    rw [filter_true] at hfx
    have gL := g2.trans gl
    have hCl : C l = none := by
      obtain ⟨l', xs', h1, h2, h3, h4⟩ := p3
      cases h1
      exact fresh_back g2.ext (dom_new g3 h3 h2 fun _ z => by cases z)
    have hfx2 : F2 (fun d x => (mT2 (.str d.1) (.int d.2)).p x M1) ((W.usesOf m).map f1) xs := by
      have := F2.items (f := g1') (E := fun d x => (mT2 (.str d.1) (.int d.2)).p x M1) hfx
      have e : (List.range (strsD ns).length).map g1' = (W.usesOf m).map f1 := by
        unfold strsD
        rw [List.length_map, ← hu]
        exact range_map_getD f1 (W.usesOf m) ⟨#[]⟩
      rwa [e] at this
    have hw3 := hw.mono gL.up
    have hd3 := dp_mono gL.up hd
    have hd13 := dp_mono gl.up hd1
    let f2 : PySem.Str → PySem.Str × Int := fun u => (u, (firstR (W.win u m) t : Int))
    let bs : Nat → Bool := fun k => decide (m ∈ (W.us.getD k (⟨#[]⟩, [])).2)
    refine r_for (N := M1) (n := (strsD (W.users m)).length) (I := fun j => mR K fun d => (strsD (W.users m))[j]? = some d) (pi_list pE) (ji_list (J.imp (P := mNL M1 K (F2 (fun k d => d = .str (W.us.getD k (⟨#[]⟩, [])).1) ((List.range (strsD W.mods).length).filter bs))) ?_ fun v M' g p => mNL_D p fun es h => ?_)) gl.sub (pg_name (i := 4) hN rfl (Or.inl rfl)) PassesOwn.never rfl
      (fun N4 i σ C4 => ∃ Mi ys o4 o5 o6, Gr M C Mi C4 ∧ Ex N4 Mi ∧ Ex M1 Mi ∧ Mi l = none ∧ C4 l = some (.lst ys) ∧ F2 (fun d x => (mT2 (.str d.1) (.int d.2)).p x Mi) ((W.usesOf m).map f1 ++ ((W.users m).take i).map f2) ys ∧ σ = [some (.ref b.w), some dv, some v1, some (.ref l), o4, o5, o6, none, none, none, none, none, none])
      (fun N4 C4 g4 => ?_) (fun N4 i σ C4 ⟨Mi, ys, o4, o5, o6, h1, h2, _⟩ => h2.trans h1.sub) (fun N4 i x σ C4 M5 C5 e4 hi hP4 gM hx => ?_) fun N4 σ C4 e4 hP4 => ?_
    · refine j_lc (own := [("_law_name_here", 9)]) (I := fun j => mR K fun d => (strsD W.mods)[j]? = some d) _ _ 9 rfl hN (pi_list pE) (ji_list ((j_wmo hw3 (by exact hu_of hr) (jv 0)).val hw3.mod)) (by unfold strsD; rw [List.length_map]; have := wo.few; unfold Wr.mods; rw [List.length_map]; omega)
        (blk_by (N := ["_law_world_here", "_law_demand", "_law_there", "_law_found", "_law_user", "_law_windows_here", "_law_reaching", "_law_version", "_law_used", "_law_name_here", "_law_k", "_law_window", "_law_one"]) (sc := defScope (top 62)) (by decide +kernel)) (fun s0 H0 C0 cl fp => pg_name hN rfl (Or.inl rfl)) (fun x => rfl) fun k x M2 hk eM2 hx => ?_
      obtain ⟨d, h1, h2⟩ := hx
      unfold strsD Wr.mods at h1 hk
      rw [List.length_map, List.length_map] at hk
      rw [List.getElem?_map, List.getElem?_map, List.getElem?_eq_getElem hk] at h1
      have h1' : PyData.str W.us[k].1 = d := Option.some.inj h1
      subst h1'
      obtain rfl := dp_str h2
      have e : W.us.getD k (⟨#[]⟩, []) = W.us[k] := by rw [List.getD_eq_getElem?_getD, List.getElem?_eq_getElem hk] <;> rfl
      have hmk : (W.us[k].1, W.us[k].2) ∈ W.us := List.getElem_mem hk
      have hw5 := hw3.mono eM2
      refine ⟨fun s0 H0 C0 cl fp => jts_one ?_, fun _ s0 H0 C0 cl fp => (jv 9).imp fun y M3 g p => ⟨_, rfl, ?_⟩⟩
      · show JT _ _ _ _ (decide (m ∈ (W.us.getD k (⟨#[]⟩, [])).2))
        rw [e]
        exact jt_inN (J.str (j_ixT (ds := [.str m, .int v]) (j_var 1 (P := mD K (dD (m, v))) (dp_mono eM2 hd3)) j_int rfl)) (j_wusM hw5 (us_mem hmk) (by exact hu_of hr) (jv 0) (jv 9)) fun y M3 g p => by
          have p' : y = V.ref (b.ul W.us[k].1) := p
          subst p'
          exact .inr (dp_mono g (hw5.uses hmk))
      · have p' : y = V.str W.us[k].1 := p
        subst p'
        rw [e]
        exact .str _
    · rw [F2.map h]
      have e := filter_places (fun p : PySem.Str × List PySem.Str => decide (m ∈ p.2)) (fun p => PyData.str p.1) W.us (⟨#[]⟩, [])
      have el : (strsD W.mods).length = W.us.length := by unfold strsD Wr.mods; rw [List.length_map, List.length_map]
      rw [el]
      refine e.trans ?_
      unfold strsD Wr.users
      rw [List.map_map] <;> rfl
    · refine ⟨N4, xs, none, none, none, gL.trans g4, Ex.refl _, g4.up, g4.out hl1 hlC, g4.ext _ _ hlC, ?_, rfl⟩
      rw [List.take_zero, List.map_nil, List.append_nil]
      exact hfx2.mono2 fun d x h => (mT2 _ _).mono g4.up h
    · obtain ⟨Mi, ys, o4, o5, o6, gi, eNi, e1i, hMl, hC4, hf, rfl⟩ := hP4
      obtain ⟨gm5, em5⟩ := gM.more eNi gi.sub
      obtain ⟨d, hd1', hd2⟩ := hx
      unfold strsD at hd1' hi
      rw [List.length_map] at hi
      rw [List.getElem?_map, List.getElem?_eq_getElem hi] at hd1'
      have hd1'' : PyData.str (W.users m)[i] = d := Option.some.inj hd1'
      subst hd1''
      obtain rfl := dp_str hd2
      have g6 := gi.trans gm5
      have hl6 : (un Mi M5) l = none := gm5.out hMl hC4
      have hC6 : C5 l = some (.lst ys) := gm5.ext _ _ hC4
      obtain ⟨ns2, hns2, hmn⟩ := mem_users (List.getElem_mem hi)
      have hw6 := hw.mono g6.up
      have hlen2 := wo.len _ ns2 m hns2 hmn
      have hcs2 := wo.cs (W.users m)[i]
      have hyl : ys.length ≤ 20 := by
        rw [hf.len, List.length_append, List.length_map, List.length_map, List.length_take]
        omega
      refine r_set 5 (N := un Mi M5) (P := mIs (.ref (b.wl (W.users m)[i] m))) (j_wwiM hw6 hns2 hmn (by exact hu_of hr) (jv 0) (jv 4) (J.str (j_ixT (ds := [.str m, .int v]) (j_var 1 (P := mD K (dD (m, v))) (dp_mono g6.up hd)) j_int rfl))) g6.sub hN fun v7 N7 C7 g7 p7 => ?_
      have p7' : v7 = V.ref (b.wl (W.users m)[i] m) := p7
      subst p7'
      have g8 := g6.trans g7
      have hw7 := hw.mono g8.up
      have hdW := hw7.wns hns2 hmn
      have hd17 := dp_mono (e1i.trans (gm5.up.trans g7.up)) hd13
      refine r_setLc2n 6 (K := K) (N := N7) (n := ((W.win (W.users m)[i] m).map wD).length) (own := [("_law_k", 10), ("_law_window", 11)]) (fun k d => d = .int (k : Nat)) (fun k => reachB (((W.win (W.users m)[i] m).getD k (0, none)).2) t) 10 11 g7.sub rfl hN (pi_enum rfl B.enum pA) (ji_enumD (ja_cons ((jv 5).val hdW) ja_nil)) (by rw [List.length_map]; omega)
        (blk_by (N := ["_law_world_here", "_law_demand", "_law_there", "_law_found", "_law_user", "_law_windows_here", "_law_reaching", "_law_version", "_law_used", "_law_name_here", "_law_k", "_law_window", "_law_one"]) (sc := defScope (top 62)) (by decide +kernel)) (fun s0 H0 C0 cl fp => pg_tup rfl (pgs_cons (pg_name hN rfl (Or.inl rfl)) (pgs_cons (pg_name hN rfl (Or.inl rfl)) pgs_nil))) (fun x y => rfl) (fun k x M2 hk eM2 hx => ?_) fun v9 N9 C9 g9 p9 => ?_
      · obtain ⟨T, y, d, rfl, hd8, hy8, hT⟩ := hx
        rw [List.length_map] at hk
        rw [List.getElem?_map, List.getElem?_eq_getElem hk] at hd8
        have hd8' : wD (W.win (W.users m)[i] m)[k] = d := Option.some.inj hd8
        subst hd8'
        have eg : (W.win (W.users m)[i] m).getD k (0, none) = (W.win (W.users m)[i] m)[k] := by rw [List.getD_eq_getElem?_getD, List.getElem?_eq_getElem hk] <;> rfl
        generalize hq : (W.win (W.users m)[i] m)[k] = q at hy8 eg
        refine ⟨T, .int (k : Nat), y, rfl, SqT.of hT, fun s0 H0 C0 cl fp => jts_one ?_, fun _ s0 H0 C0 cl fp => (jv 10).imp fun y M3 g p => ⟨_, rfl, ?_⟩⟩
        · show JT _ _ _ _ (reachB (((W.win (W.users m)[i] m).getD k (0, none)).2) t)
          rw [eg]
          obtain ⟨ql, qh⟩ := q
          have jt0 : ∀ {Y : Cx}, True := fun {_} => trivial
          cases qh with
          | none => exact JW.t (jw_orT (jt_cmp op_isN (J.opt (h := none) (j_ixT (ds := [.int ql, hD none]) (j_var 11 (P := mD K (wD (ql, none))) hy8) j_int rfl)) j_non rv_isN))
          | some h => exact JW.t (jw_orF (jt_cmp op_isN (J.opt (h := some h) (j_ixT (ds := [.int ql, hD (some h)]) (j_var 11 (P := mD K (wD (ql, some h))) hy8) j_int rfl)) j_non rv_isN) (jw_or1 (jt_cmp op_ge (J.opt (h := some h) (j_ixT (ds := [.int ql, hD (some h)]) (j_var 11 (P := mD K (wD (ql, some h))) hy8) j_int rfl)) (J.int (j_ixL (j_var 2 (P := mD K (.list (PyData.int (t : Int) :: r0.map PyData.int))) (dp_mono eM2 hd17)) j_int atI0)) rv_I0)))
        · have p' : y = V.int (k : Nat) := p
          subst p'
          exact .int _
      · have g10 := g8.trans g9
        have hdW9 := dp_mono g9.up hdW
        have hl9 : N9 l = none := (g7.trans g9).out hl6 hC6
        have hC9 := (g7.trans g9).ext _ _ hC6
        have hr1 := reach_first (W.win (W.users m)[i] m) t
        refine r_app (l := l) (xs := ys) (N := N9) (jv 3) (j_tup2 (v2 := .int (firstR (W.win (W.users m)[i] m) t : Nat)) (jv 4) (J.int (K := K) ?_)) g10.sub hl9 hC9 (by omega) fun v' N' C' g h1 p => ?_
        · cases eL : ((List.range (W.win (W.users m)[i] m).length).filter fun k => reachB (((W.win (W.users m)[i] m).getD k (0, none)).2) t) ++ [(W.win (W.users m)[i] m).length] with
          | nil => rw [eL] at hr1; cases hr1
          | cons k0 rr =>
            rw [eL] at hr1
            have ek : k0 = firstR (W.win (W.users m)[i] m) t := Option.some.inj hr1
            subst ek
            refine j_headCat (N1 := N7) (N2 := N9) (d1 := ((List.range (W.win (W.users m)[i] m).length).filter fun k => reachB (((W.win (W.users m)[i] m).getD k (0, none)).2) t).map fun k : Nat => PyData.int (k : Int)) (d2 := [PyData.int ((W.win (W.users m)[i] m).length : Nat)]) (r := rr.map fun k : Nat => PyData.int (k : Int)) (j_var 6 ?_) (j_lstN (ja_consD (J.imp (j_lenL (ds := (W.win (W.users m)[i] m).map wD) ((jv 5).val hdW9) B.len) fun y M' g p => ?_) ja_nilD) (by show 1 ≤ 100000; decide)) ?_ ?_
            · obtain ⟨l', xs', ds', h1, h2, h3, h4, h5⟩ := p9
              refine ⟨l', xs', ds', h1, h2, h3, h4, ?_⟩
              rw [F2.map h5, List.length_map]
            · have p' : y = _ := p
              subst p'
              rw [List.length_map]
              exact Dp.int _
            · have := congrArg (List.map fun k : Nat => PyData.int (k : Int)) eL
              rw [List.map_append] at this
              exact this
            · have := List.length_filter_le (fun k => reachB (((W.win (W.users m)[i] m).getD k (0, none)).2) t) (List.range (W.win (W.users m)[i] m).length)
              rw [List.length_range] at this
              rw [List.length_map, List.length_singleton]
              omega
        · have g11 := g10.trans g
          refine r_nil ⟨N', ys ++ [v'], some (.str (W.users m)[i]), some (.ref (b.wl (W.users m)[i] m)), some v9, g11.mut hCl h1, (eNi.trans gm5.up).trans ((g7.up.trans g9.up).trans g.up), e1i.trans (gm5.up.trans ((g7.up.trans g9.up).trans g.up)), h1, upd_same, ?_, rfl⟩
          have et : (W.users m).take (i + 1) = (W.users m).take i ++ [(W.users m)[i]] := by rw [List.take_succ, List.getElem?_eq_getElem hi] <;> rfl
          rw [et, List.map_append, ← List.append_assoc]
          exact (hf.mono2 fun d x h => (mT2 _ _).mono (gm5.up.trans ((g7.up.trans g9.up).trans g.up)) h).app p
    · obtain ⟨Mi, ys, o4, o5, o6, gi, eNi, e1i, hMl, hC4, hf, rfl⟩ := hP4
      have efound : (W.usesOf m).map f1 ++ ((W.users m).take (strsD (W.users m)).length).map f2 = foundL W m t := by
        unfold strsD foundL
        rw [List.length_map, List.take_length]
      rw [efound] at hf
      have gi2 : Gr M C (upd Mi l (.lst ys)) C4 := gi.take hC4 hCl (fresh_back gi.up hMl)
      have hf2 := hf.mono2 fun d x h => (mT2 (.str d.1) (.int d.2)).mono (Ex.new (o := .lst ys) hMl) h
      have hfl : (foundL W m t).length ≤ 20 := by
        unfold foundL
        rw [List.length_append, List.length_map, List.length_map]
        omega
      have hdf : Dp K (upd Mi l (.lst ys)) (.ref l) (.list ((foundL W m t).map dD)) := .lst (SqL.of upd_same) (dps_dD hf2)
      refine r_ret (N := upd Mi l (.lst ys)) (P := mNL (upd Mi l (.lst ys)) K (F2 (fun k d => d = dD ((foundL W m t).getD k (⟨#[]⟩, 0))) ((List.range ((foundL W m t).map dD).length).filter fun k => match (foundL W m t)[k]? with
        | some d => decide (0 < d.2) && !decide (d ∈ (foundL W m t).take k)
        | none => false))) ?_ gi2.sub fun y N' C' g p => rt y N' C' (gi2.trans g) (hP _ _ ?_)
      · refine j_lc2n (own := [("_law_k", 10), ("_law_one", 12)]) _ _ 10 12 rfl hN (pi_enum rfl B.enum pA) (ji_enumD (ja_cons ((jv 3).val hdf) ja_nil)) (by rw [List.length_map]; omega)
          (blk_by (N := ["_law_world_here", "_law_demand", "_law_there", "_law_found", "_law_user", "_law_windows_here", "_law_reaching", "_law_version", "_law_used", "_law_name_here", "_law_k", "_law_window", "_law_one"]) (sc := defScope (top 62)) (by decide +kernel)) (fun s0 H0 C0 cl fp => pg_tup rfl (pgs_cons (pg_name hN rfl (Or.inl rfl)) (pgs_cons (pg_name hN rfl (Or.inl rfl)) pgs_nil))) (fun x y => rfl) fun k x M2 hk eM2 hx => ?_
        obtain ⟨T, y, d, rfl, hd8, hy8, hT⟩ := hx
        rw [List.length_map] at hk
        rw [List.getElem?_map, List.getElem?_eq_getElem hk] at hd8
        have hd8' : dD (foundL W m t)[k] = d := Option.some.inj hd8
        subst hd8'
        have eg : (foundL W m t)[k]? = some (foundL W m t)[k] := List.getElem?_eq_getElem hk
        have eg2 : (foundL W m t).getD k (⟨#[]⟩, 0) = (foundL W m t)[k] := by rw [List.getD_eq_getElem?_getD, eg] <;> rfl
        have hmo := found_mod wo hm (List.getElem_mem hk)
        generalize hq : (foundL W m t)[k] = q at hy8 eg eg2 hmo
        have hfm : ∀ x ∈ (foundL W m t).take k, okP (dD x) := fun x hx => okP_dem wo (found_mod wo hm (List.mem_of_mem_take hx)) x.2
        refine ⟨T, .int (k : Nat), y, rfl, SqT.of hT, fun s0 H0 C0 cl fp => jts_one ?_, fun _ s0 H0 C0 cl fp => (j_var 12 (P := mD K (dD q)) hy8).imp fun y M3 g p => ⟨_, rfl, by rw [eg2]; exact p⟩⟩
        show JT _ _ _ _ (match (foundL W m t)[k]? with
          | some d => decide (0 < d.2) && !decide (d ∈ (foundL W m t).take k)
          | none => false)
        rw [eg]
        refine JW.t (jw_and (jt_cmp op_gt (J.int (j_ixT (ds := [.str q.1, .int q.2]) (j_var 12 (P := mD K (dD q)) hy8) j_int rfl)) j_int rv_I0) fun _ => jw_and1 (jt_cmpP (op_notInD (by exact h65)) (j_var 12 (P := mD K (dD q)) hy8) (j_takeL (ds := (foundL W m t).map dD) (k := k) ((jv 3).val (dp_mono eM2 hdf)) (jv 10) (by rw [List.length_map]; omega)) fun x y M3 g hx hy => rp_rv (rv_val fun H1 e1 Q q1 => ⟨dD q, ((foundL W m t).map dD).take k, dp_mono e1 hx, dp_mono e1 hy, shaped_of_okP (okP_dem wo hmo q.2), shapedL fun d hd => ?_, ?_⟩) rfl))
        · rw [← List.map_take] at hd
          obtain ⟨x, hx, rfl⟩ := List.mem_map.mp hd
          exact hfm x hx
        · rw [← List.map_take, any_dD]
          exact q1
      · show (match sett W m v with
          | some t => (mNL M K (· = (dueL W m t).map dD)).p y N'
          | none => y = .non)
        rw [hs]
        refine mNL_up (R' := (· = (dueL W m t).map dD)) gi2.up p fun es h => ?_
        rw [F2.map h, List.length_map]
        have e := once_fold (foundL W m t)
        unfold onceL at e
        unfold dueL
        rw [← e, List.map_map] <;> rfl
end
end Gs

set_option Elab.async false
set_option linter.all false
set_option maxRecDepth 100000
set_option maxHeartbeats 4000000
/-! GsLaw2: what is short enough for repr; defs that may repr; _law_meets. -/
namespace Gs
open PySem PySem.Spec PyProof.Rows L2 Evl
structure ShD (d : PyData) (k b : Nat) : Prop where
  s : d.showable = true
  h : d.hasDict = false
  l : d.leavesShort 13 = true
  dp : d.depth ≤ k
  bk : d.bulk ≤ b
theorem ShD.ok {d : PyData} {k b : Nat} (x : ShD d k b) (hk : k ≤ 20) (hb : b ≤ 2 ^ 20) : ShOk d := ⟨x.s, x.h, Nat.le_trans x.dp hk, PyData.shown_fits_bulk (by decide) (by decide) x.l (Nat.le_trans x.bk hb)⟩
theorem ShD.mono {d : PyData} {k b k' b' : Nat} (x : ShD d k b) (hk : k ≤ k') (hb : b ≤ b') : ShD d k' b' := ⟨x.s, x.h, x.l, Nat.le_trans x.dp hk, Nat.le_trans x.bk hb⟩
theorem short_nat : ∀ n : Nat, n < 201 → (decide ((PyData.shown (.int (n : Int))).length ≤ 13) && decide ((n : Int).natAbs.log2 < 1920)) = true := by decide +kernel
theorem shd_nat {n : Nat} (h : n < 201) : ShD (.int (n : Int)) 0 0 := by
  have := short_nat n h
  rw [Bool.and_eq_true, decide_eq_true_eq, decide_eq_true_eq] at this
  exact ⟨by simp only [PyData.showable]; exact decide_eq_true this.2, by simp only [PyData.hasDict], by simp only [PyData.leavesShort]; exact decide_eq_true this.1, by simp [PyData.depth], by simp [PyData.bulk]⟩
theorem shd_int {i : Int} (h0 : 0 ≤ i) (h : i ≤ 200) : ShD (.int i) 0 0 := by
  have e : i = ((i.toNat : Nat) : Int) := by omega
  rw [e]
  exact shd_nat (by omega)
theorem shd_non : ShD .none 0 0 := ⟨rfl, by simp only [PyData.hasDict], rfl, by simp [PyData.depth], by simp [PyData.bulk]⟩
theorem shd_str {z : PySem.Str} (h : z.cps.toList.all (fun c => decide (c < 16 ^ 8)) = true) (hl : z.length ≤ 8) : ShD (.str z) 0 8 := ⟨rfl, by simp only [PyData.hasDict], by simp only [PyData.leavesShort]; exact h, by simp [PyData.depth], by simp only [PyData.bulk]; exact hl⟩
theorem shd_name {z : PySem.Str} (h : NameOk z) : ShD (.str z) 0 8 := shd_str (by
  rw [List.all_eq_true]
  intro c hc
  have hall : letters.cps.toList.all (fun c => decide (c < 16 ^ 8)) = true := by decide +kernel
  exact List.all_eq_true.mp hall c (h.2.2 c hc)) h.2.1
theorem shd_all {xs : List PyData} {k b : Nat} (h : ∀ x ∈ xs, ShD x k b) : PyData.showableAll xs = true ∧ PyData.hasDictAll xs = false ∧ PyData.leavesShortAll 13 xs = true ∧ PyData.depthAll xs ≤ k ∧ PyData.bulkAll xs ≤ xs.length * (b + 1) := by
  induction xs with
  | nil => exact ⟨rfl, rfl, rfl, Nat.zero_le _, by simp [PyData.bulkAll]⟩
  | cons x r ih =>
    have hx := h x (List.mem_cons_self ..)
    obtain ⟨h1, h2, h3, h4, h5⟩ := ih fun y hy => h y (List.mem_cons_of_mem _ hy)
    refine ⟨?_, ?_, ?_, ?_, ?_⟩
    · unfold PyData.showableAll; rw [hx.s, h1] <;> rfl
    · unfold PyData.hasDictAll; rw [hx.h, h2] <;> rfl
    · unfold PyData.leavesShortAll; rw [hx.l, h3] <;> rfl
    · unfold PyData.depthAll; exact Nat.max_le.mpr ⟨hx.dp, h4⟩
    · unfold PyData.bulkAll
      rw [List.length_cons, Nat.succ_mul]
      have := hx.bk
      omega
theorem shd_list {xs : List PyData} {k b : Nat} (h : ∀ x ∈ xs, ShD x k b) : ShD (.list xs) (k + 1) (xs.length * (b + 1)) := by
  obtain ⟨h1, h2, h3, h4, h5⟩ := shd_all h
  exact ⟨by simp only [PyData.showable]; exact h1, by simp only [PyData.hasDict]; exact h2, by simp only [PyData.leavesShort]; exact h3, by simp only [PyData.depth]; omega, by simp only [PyData.bulk]; exact h5⟩
theorem shd_tup {xs : List PyData} {k b : Nat} (h : ∀ x ∈ xs, ShD x k b) : ShD (.tuple xs) (k + 1) (xs.length * (b + 1)) := by
  obtain ⟨h1, h2, h3, h4, h5⟩ := shd_all h
  exact ⟨by simp only [PyData.showable]; exact h1, by simp only [PyData.hasDict]; exact h2, by simp only [PyData.leavesShort]; exact h3, by simp only [PyData.depth]; omega, by simp only [PyData.bulk]; exact h5⟩
theorem shd_dem {d : PySem.Str × Int} (hn : NameOk d.1) (h0 : 0 ≤ d.2) (h : d.2 ≤ 200) : ShD (dD d) 1 18 := (shd_tup (k := 0) (b := 8) fun x hx => by
  rcases List.mem_cons.mp hx with rfl | hx
  · exact shd_name hn
  · have : x = .int d.2 := by simpa using hx
    subst this
    exact (shd_int h0 h).mono (Nat.le_refl _) (by omega))
/-- the demands that follow are small -/
theorem due_ok {W : Wr} (o : WOk W) {m : PySem.Str} (hm : m ∈ W.mods) {t : Nat} {d : PySem.Str × Int} (h : d ∈ dueL W m t) : d.1 ∈ W.mods ∧ 0 ≤ d.2 ∧ d.2 ≤ 100 := by
  unfold dueL at h
  rw [mem_foldN] at h
  rcases h with h | h
  · cases h
  obtain ⟨h, hp⟩ := List.mem_filter.mp h
  have hpos : 0 < d.2 := of_decide_eq_true hp
  refine ⟨found_mod o hm h, by omega, ?_⟩
  unfold foundL at h
  rcases List.mem_append.mp h with h | h
  · obtain ⟨n, hn, rfl⟩ := List.mem_map.mp h
    show ((W.win m n).getD ((t : Int)).toNat (0, none)).1 ≤ 100
    rw [List.getD_eq_getElem?_getD]
    cases e : (W.win m n)[((t : Int)).toNat]? with
    | none => simp
    | some q => exact (o.small m n q (List.mem_of_getElem? e)).1
  · obtain ⟨u, hu, rfl⟩ := List.mem_map.mp h
    obtain ⟨ns, hns, hmn⟩ := mem_users hu
    have h1 : firstR (W.win u m) t ≤ (W.win u m).length := List.findIdx_le_length
    have h2 := o.len u ns m hns hmn
    have h3 := o.cs u
    show ((firstR (W.win u m) t : Nat) : Int) ≤ 100
    omega
theorem dueL_len {W : Wr} (o : WOk W) (m : PySem.Str) (t : Int) : (dueL W m t).length ≤ 6 := by
  have key : ∀ (l acc : List (PySem.Str × Int)), (l.foldl addN acc).length ≤ acc.length + l.length := by
    intro l
    induction l with
    | nil => intro acc; exact Nat.le_refl _
    | cons d r ih =>
      intro acc
      rw [List.foldl_cons, List.length_cons]
      have h1 := ih (addN acc d)
      have h2 := addN_len acc d
      omega
  unfold dueL
  refine Nat.le_trans (key _ _) ?_
  have h1 := List.length_filter_le (fun d : PySem.Str × Int => decide (0 < d.2)) (foundL W m t)
  have h2 : (foundL W m t).length ≤ 6 := by
    unfold foundL
    rw [List.length_append, List.length_map, List.length_map]
    have := uses_few o m
    have := users_few o m
    omega
  simp only [List.length_nil]
  omega
theorem shd_due {W : Wr} (o : WOk W) {m : PySem.Str} (hm : m ∈ W.mods) (t : Nat) : ShD (.list ((dueL W m t).map dD)) 2 200 := by
  have h := shd_list (xs := (dueL W m t).map dD) (k := 1) (b := 18) fun x hx => by
    obtain ⟨d, hd, rfl⟩ := List.mem_map.mp hx
    obtain ⟨h1, h2, h3⟩ := due_ok o hm hd
    exact shd_dem (o.nm _ h1) h2 (by omega)
  refine h.mono (Nat.le_refl _) ?_
  have := dueL_len o m t
  rw [List.length_map]
  omega
/-! ### defs that may repr -/
structure ClG (P : Program) (w : World) (K : PySem.W.Frag) (mg : PySem.Str → Option Value) (base : Heap) (k : Nat) (x : PySem.Str) (pre : List V → Hp → MP → Prop) : Prop where
  ex : ∃ (f : Addr) (fd : FuncData) (ps : List PySem.Str), FnG P w K mg base k f fd ps (spP pre) ∧ mg x = some (.ref f) ∧ PySem.W.keepIn K (.ref f) = true ∧ Binds K fd ps []
section
variable {P : Program} {w : World} {K : PySem.W.Frag} {mg : PySem.Str → Option Value} {base : Heap} {x : PySem.Str} {st : Stmt} {N ps : List PySem.Str} {k : Nat} {pre : List V → Hp → MP → Prop} {sp : Sp}
theorem fng_of {f : Addr} {fd : FuncData} (F : L2.Fun K x x st f fd) (S : C8.scC N ps (defScope st) = true) (len : ∀ vs C Q E, sp vs C Q E → vs.length = ps.length)
    (body : ∀ (cdv : Value) (A : Around) (outer : List Env) (s : Shared) (C : Hp) (E : XK) (vs : List V) (Q : VK), Room k (cxN P w K mg base N x st f cdv A outer s C E).A → (cxN P w K mg base N x st f cdv A outer s C E).A.guards = some [] → sp vs C Q E →
      tR (cxN P w K mg base N x st f cdv A outer s C E) (defBody st) { nx := fun _ H' => Q .non H', rt := Q } (start N vs) C) : FnG P w K mg base (k + 1) f fd ps sp :=
  fnG_of F (C8.fnScope_by S) len fun cdv A outer s H vs Q E hr hg hsp => ⟨_, pR, body cdv A outer s H E vs Q hr hg hsp⟩
theorem clG_of (F : DF K mg x st) (S : C8.scC N ps (defScope st) = true) (len : ∀ vs M Pm, pre vs M Pm → vs.length = ps.length)
    (hb : ∀ (kV doc pm : Value) (an : Option Addr) (cdv ct : Value) (us : List Value), us.length = ps.length → bindArgs (PySem.W.fnOf x x (defArgs st) (defBody st) (defScope st) .none kV doc pm an cdv ct) ⟨us, []⟩ = pure (ps.zip us))
    (body : ∀ (f : Addr) (cdv : Value) (A : Around) (outer : List Env) (s : Shared) (C : Hp) (E : XK) (vs : List V) (M : Hp) (Pm : MP) (D : Ends), Room k (cxN P w K mg base N x st f cdv A outer s C E).A → (cxN P w K mg base N x st f cdv A outer s C E).A.guards = some [] → Ex M C → pre vs M Pm → (∀ v N' C', Gr M C N' C' → Pm.p v N' → D.rt v C') →
      tR (cxN P w K mg base N x st f cdv A outer s C E) (defBody st) D (start N vs) C) : ClG P w K mg base (k + 1) x pre := by
  obtain ⟨f, fd, F1, hm⟩ := F
  refine ⟨f, fd, ps, fng_of F1 S (fun vs C Q E h => ?_) fun cdv A outer s C E vs Q hr hg hsp => ?_, hm, F1.kp, F1.binds hb⟩
  · obtain ⟨M, Pm, _, hp, _⟩ := h
    exact len vs M Pm hp
  · obtain ⟨M, Pm, eM, hp, q⟩ := hsp
    exact body f cdv A outer s C E vs M Pm _ hr hg eM hp q
end
section
variable {X : Cx} {e o a b : Expr} {es : List Expr} {σ : L2.St} {N : Hp} {P : MP} {L : ML} {x : PySem.Str} {k j : Nat} {pre : List V → Hp → MP → Prop} {pos p apos cpos : Pos} {d : PyData} {l : Addr} {xs : List V} {v : V} {i : Int}
theorem j_callG (c : ClG X.prog X.w X.K X.mg X.base k x pre) (hr : Room j X.A) (hgd : X.A.guards = some []) (ha : JA X (e :: es) σ N L) (hs : ∀ vs M, Ex N M → L.p vs M → pre vs M P) (hk : k ≤ j := by decide) (hg : Gl X x := by rfl) (hdb : (x == ("__debug__" : PySem.Str)) = false := by decide)
    (he : starEach (e :: es) X.env = (false, eval e X.env) :: starEach es X.env := by rfl) (hpl : (backTo pos (starEach es X.env)).any (·.1) = false := by rfl) : J X (.Call (.Name x p) (e :: es) [] pos) σ N P := by
  obtain ⟨f, fd, ps, F, hm, kp, hb⟩ := c.ex
  exact j_of (pe_callG F (hr.mono hk) hgd hg hm kp hb pA hdb he hpl) (ep_call ha hs)
theorem j_repr (hgd : X.A.guards = some []) (hu : X.A.units + 64 < cLine) (he : J X e σ N (mD X.K d)) (ok : ShOk d) (hm : X.mg "repr" = none) (hg : Gl X "repr" := by rfl) (hs : starEach [e] X.env = (false, eval e X.env) :: starEach [] X.env := by rfl) (hpl : (backTo pos (starEach [] X.env)).any (·.1) = false := by rfl) :
    J X (.Call (.Name "repr" p) [e] [] pos) σ N (mIs (.str d.shown)) :=
  j_ev (pe_callB (call_reprD hgd hu) hg hm PyProof.Rows.Boot.«repr» (pa_cons pE pa_nil hs) (by decide) (by decide) hs hpl) (ep_repr he ok)
/-- an item of an exact list -/
theorem j_ixX (ha : J X a σ N (mIs (.ref l))) (hb : J X b σ N (mIs (.int i))) (hl : N l = some (.lst xs)) (hi : atI xs i = some v) (hs : PlainIx b := by exact fun _ _ => rfl) : J X (.Subscript a b pos) σ N (mIs v) := j_ev (pe_ix ix_list pE pE hs) (ev_op ha.ev hb.ev (rv_ixL (SqL.of hl) hi))
theorem j_ixTX {tb : Addr} (ha : J X a σ N (mIs (.ref tb))) (hb : J X b σ N (mIs (.int i))) (hl : N tb = some (.tup xs)) (hi : atI xs i = some v) (hs : PlainIx b := by exact fun _ _ => rfl) : J X (.Subscript a b pos) σ N (mIs v) := j_ev (pe_ix ix_tup pE pE hs) (ev_op ha.ev hb.ev (rv_ixT (SqT.of hl) hi))
theorem eqV_str (a b : PySem.Str) : eqV (.str a) (.str b) = decide (a = b) := by
  show (a == b) = decide (a = b)
  by_cases h : a = b
  · subst h; simp
  · simp [h]
/-- names.index(name) -/
theorem j_idx {ns : List PySem.Str} {m : PySem.Str} (ho : J X o σ N (mIs (.ref l))) (hl : N l = some (.lst (ns.map V.str))) (he : J X e σ N (mIs (.str m))) (hm : m ∈ ns) (hbase : attributeBase o "index" X.env (eval o X.env) = eval o X.env := by rfl)
    (hfew : ((backTo cpos (starEach [e] X.env)).all (fun x => !x.1) && (backToKw cpos (keywordEach [] X.env)).all (fun x => x.1.isSome) && decide (([e] : List Expr).length + ([] : List Keyword).length + (if ([] : List Keyword).isEmpty then 0 else 1) < 30)) = true := by rfl)
    (hline : (apos.endLine == cpos.line) = true := by rfl) (hst : starEach [e] X.env = (false, eval e X.env) :: starEach [] X.env := by rfl) (hplain : (backTo cpos (starEach [] X.env)).any (·.1) = false := by rfl) : J X (.Call (.Attribute o "index" apos) [e] [] cpos) σ N (mIs (.int (ns.idxOf m : Nat))) :=
  j_ev (pe_bm PySem.F.plainAttrs_list PySem.F.slot_list_index PySem.F.type_list_index mt_index pE (pa_cons pE pa_nil hst) hbase hfew hline hst hplain) fun C eC Q q => ho.ev C eC _ fun C1 e1 => by
    refine ⟨.inl ⟨rfl, _, SqL.of ((eC.trans e1) _ _ hl)⟩, he.ev C1 (eC.trans e1) _ fun C2 e2 => ?_⟩
    have hlt := List.idxOf_lt_length_of_mem hm
    refine ⟨l, ns.map V.str, .str m, ns.idxOf m, .str m, rfl, rfl, SqL.of ((eC.trans (e1.trans e2)) _ _ hl), rfl, flat_strs ns, ?_, (by rw [eqV_str]; exact decide_eq_true rfl), fun k z hk hz => ?_, q C2 (e1.trans e2)⟩
    · rw [List.getElem?_map, List.getElem?_eq_getElem hlt, List.getElem_idxOf hlt] <;> rfl
    · have hkl : k < ns.length := Nat.lt_trans hk hlt
      rw [List.getElem?_map, List.getElem?_eq_getElem hkl] at hz
      have hz' : V.str ns[k] = z := Option.some.inj hz
      subst hz'
      rw [eqV_str]
      refine decide_eq_false fun h => ?_
      have h2 : k < ns.findIdx (· == m) := hk
      have := List.not_of_lt_findIdx h2
      simp [h] at this
end
section
variable {P : Program} {w : World} {K : PySem.W.Frag} {mg : PySem.Str → Option Value} {base : Heap}
def preMeets (K : PySem.W.Frag) (vs : List V) (N : Hp) (P : MP) : Prop := ∃ b W sv ss dv m i, vs = [.ref b.w, sv, dv] ∧ WldAt K N b W ∧ m ∈ W.mods ∧ (mTU ss).p sv N ∧ ss.length = W.mods.length ∧ Dp K N dv (dD (m, i)) ∧ P = mIs (.bl (decide (i ≤ ((ss.getD (W.mods.idxOf m) 0 : Nat) : Int))))
theorem ok_meets (F : DF K mg "_law_meets" (top 64)) : Cl P w K mg base 1 "_law_meets" (preMeets K) := by
  refine cl_of (N := ["_law_world_here", "_law_some", "_law_demand"]) (ps := ["_law_world_here", "_law_some", "_law_demand"]) F (by decide +kernel) (fun vs M Pm h => ?_) (fun _ _ _ _ _ _ us hl => match us, hl with | [_, _, _], _ => rfl) fun f cdv A outer s C E vs M Pm D hr eM h rt nx => ?_
  · obtain ⟨b, W, sv, ss, dv, m, i, rfl, _⟩ := h; rfl
  obtain ⟨b, W, sv, ss, dv, m, i, rfl, hw, hm, ⟨tb, rfl, htb⟩, hl, hd, rfl⟩ := h
  have hlt := List.idxOf_lt_length_of_mem hm
  have e : ss[W.mods.idxOf m]? = some (ss.getD (W.mods.idxOf m) 0) := by
    rw [List.getD_eq_getElem?_getD, List.getElem?_eq_getElem (by omega)] <;> rfl
  exact r_ret (N := M) (j_cmp op_ge (j_ixTX (jv 1) (j_idx (j_wmo hw (hu_of hr) (jv 0)) hw.mo (J.str (j_ixT (ds := [.str m, .int i]) (j_var 2 (P := mD K (dD (m, i))) hd) j_int rfl)) hm) htb (atI_map e)) (J.int (j_ixT (ds := [.str m, .int i]) (j_var 2 (P := mD K (dD (m, i))) hd) j_int rfl)) rv_I0) eM rt
end
end Gs

set_option Elab.async false
set_option linter.all false
set_option maxRecDepth 100000
set_option maxHeartbeats 8000000
/-! GsLaw3: _law_demand_right, _law_all_right. -/
namespace Gs
open PySem PySem.Spec PyProof.Rows L2 Evl
section
variable {X : Cx} {e a b : Expr} {es : List Expr} {rest : List Stmt} {D : Ends} {σ : L2.St} {N C : Hp} {P1 : MP} {pos : Pos} {x y : PySem.Str} {px py pt pt2 : Pos} {kt k2 : Nat}
/-- x, y = a, b with local names -/
theorem r_par (i j : Nat) (hc : X.calm = true) (hN : X.N.Nodup) {P2 : V → Hp → MP} (ha : J X a σ N P1) (hb : ∀ v N1, Ex N N1 → P1.p v N1 → J X b σ N1 (P2 v N1)) (eN : Ex N C) (k : ∀ v w N1 C1 N' C', Gr N C N1 C1 → P1.p v N1 → Gr N1 C1 N' C' → (P2 v N1).p w N' → tR X rest D ((σ.set i (some v)).set j (some w)) C') (hij : i ≠ j := by decide) (hi : X.N[i]? = some x := by rfl) (hj : X.N[j]? = some y := by rfl)
    (hx : X.env.scope.names.lookup x = some .local := by rfl) (hy : X.env.scope.names.lookup y = some .local := by rfl) (hw : swappedStores [.Tuple [.Name x px, .Name y py] kt pt] (.Tuple [a, b] k2 pt2) X.env = pure (some [x, y]) := by rfl)
    (hs : swapsWithSole [.Tuple [.Name x px, .Name y py] kt pt] (.Tuple [a, b] k2 pt2) pos.line X.env = pure false := by rfl) (hs1 : starEach [a, b] X.env = (false, eval a X.env) :: starEach [b] X.env := by rfl) (hs2 : starEach [b] X.env = (false, eval b X.env) :: starEach [] X.env := by rfl) :
    tR X (.Assign [.Tuple [.Name x px, .Name y py] kt pt] (.Tuple [a, b] k2 pt2) pos :: rest) D σ C :=
  r_of (ps_par hc hN hi hj hij hx hy (pa_cons pE (pa_cons pE pa_nil hs2) hs1) hw hs) (ha C eN _ fun v N1 C1 g1 p1 => hb v N1 g1.up p1 C1 g1.sub _ fun w N2 C2 g2 p2 => ⟨v, w, rfl, k v w N1 C1 N2 C2 g1 p1 g2 p2⟩)
theorem rv_notB {N : Hp} {u v : Bool} : RV rNotB (.bl u) (.bl v) N (.bl (!decide (u = v))) := rv_val fun _ _ _ q => ⟨u, v, rfl, rfl, q⟩
theorem rv_neS {N : Hp} {u v : PySem.Str} : RV rNe (.str u) (.str v) N (.bl (u != v)) := by
  have h := rv_ne (H := N) (x := .str u) (y := .str v) rfl
  rw [dec_str] at h
  exact h
theorem rv_eqS {N : Hp} {u v : PySem.Str} : RV rEq (.str u) (.str v) N (.bl (u == v)) := by
  have h := rv_eq (H := N) (x := .str u) (y := .str v) rfl
  rw [dec_str] at h
  exact h
/-- a call that may raise, but does not here -/
theorem j_callX {k j : Nat} {f : Addr} {fd : FuncData} {ps : List PySem.Str} {sp : Sp} {p : Pos} {L : ML} {P : MP} (F : FnOk X.prog X.w X.K X.mg X.base (L2.CX X.prog X.w) k f fd ps sp) (hr : Room j X.A) (hm : X.mg x = some (.ref f)) (hk : PySem.W.keepIn X.K (.ref f) = true) (hb : Binds X.K fd ps []) (ha : JA X (e :: es) σ N L)
    (hs : ∀ vs N1 C1, Ex N N1 → Ex N1 C1 → L.p vs N1 → ∀ Q : VK, (∀ v N' C', Gr N1 C1 N' C' → P.p v N' → Q v C') → sp vs C1 Q E0) (hkj : k ≤ j := by decide) (hg : Gl X x := by rfl) (hdb : (x == ("__debug__" : PySem.Str)) = false := by decide)
    (he : starEach (e :: es) X.env = (false, eval e X.env) :: starEach es X.env := by rfl) (hpl : (backTo pos (starEach es X.env)).any (·.1) = false := by rfl) : J X (.Call (.Name x p) (e :: es) [] pos) σ N P :=
  j_of (pe_call (E := E0) F (hr.mono hkj) hg hm hk hb .nil passL pA hdb he hpl) fun C eC Q q => ha C eC _ fun vs N1 C1 g1 p1 => by
    show sp (vs ++ []) C1 Q E0
    rw [List.append_nil]
    exact hs vs N1 C1 g1.up g1.sub p1 Q fun v N' C' g2 p2 => q v N' C' (g1.trans g2) p2
end
theorem mTold_up {N M : Hp} {K : PySem.W.Frag} {W : Wr} {m : PySem.Str} {i : Int} (e : Ex N M) : mle (mTold M K W m i) (mTold N K W m i) := fun v H ⟨l, h1, h2, h3⟩ => ⟨l, h1, fresh_back e h2, by
  cases hs : sett W m i with
  | some t =>
    rw [hs] at h3
    obtain ⟨l2, xs, h4, h5, h6, h7, h8⟩ := h3
    exact ⟨l2, xs, h4, fresh_back e h5, h6, h7, h8⟩
  | none =>
    rw [hs] at h3
    exact h3⟩
/-- the settled version as data -/
theorem sett_small {W : Wr} (o : WOk W) {m : PySem.Str} {i : Int} : ShD (hD (sett W m i)) 0 0 := by
  cases e : sett W m i with
  | none => exact shd_non
  | some t =>
    obtain ⟨k, rfl, hk⟩ := sett_some e
    have := o.cs m
    exact shd_nat (by omega)
theorem head_none (l : List Int) : (l.map PyData.int ++ [PyData.none]) = hD l.head? :: (l.map PyData.int ++ [PyData.none]).tail := by
  cases l with
  | nil => rfl
  | cons x r => rfl
section
variable {P : Program} {w : World} {K : PySem.W.Frag} {mg : PySem.Str → Option Value} {base : Heap} {Cc CM : Addr}
def preDR (K : PySem.W.Frag) (Cc : Addr) (vs : List V) (N : Hp) (P : MP) : Prop := ∃ a b W sv dv m, ∃ i : Nat, vs = [.ref a.c, .ref b.w, sv, dv] ∧ CatAt K Cc N a W ∧ WldAt K N b W ∧ WOk W ∧ m ∈ W.mods ∧ (mStates W).p sv N ∧ Dp K N dv (dD (m, (i : Int))) ∧ i ≤ 50 ∧ P = mIs (.bl true)
theorem ok_demand_right (F : DF K mg "_law_demand_right" (top 65)) (B : Bt mg) (c1 : Cl P w K mg base 5 "settled" (preSett K Cc)) (c2 : Cl P w K mg base 3 "is_demand" (preIsDem K Cc)) (c3 : Cl P w K mg base 1 "_law_following" (preLFol K)) (c4 : Cl P w K mg base 7 "_law_told" (preTold K Cc)) (c5 : Cl P w K mg base 1 "_law_meets" (preMeets K))
    {f2 : Addr} {fd2 : FuncData} (F2' : FnOk P w K mg base (L2.CX P w) 6 f2 fd2 ["catalog", "demand"] (spFol K Cc CM)) (m2 : mg "following" = some (.ref f2)) (k2 : PySem.W.keepIn K (.ref f2) = true) (b2 : Binds K fd2 ["catalog", "demand"] []) : ClG P w K mg base 8 "_law_demand_right" (preDR K Cc) := by
  refine clG_of (N := ["_law_catalog", "_law_world_here", "_law_states_here", "_law_demand", "_law_there", "_law_due", "_law_told_here", "_law_meeting", "_law_other", "_law_version", "_law_some"]) (ps := ["_law_catalog", "_law_world_here", "_law_states_here", "_law_demand"]) F (by decide +kernel) (fun vs M Pm h => ?_) (fun _ _ _ _ _ _ us hl => match us, hl with | [_, _, _, _], _ => rfl) fun f cdv A outer s C E vs M Pm D hr hgd eM h rt => ?_
  · obtain ⟨a, b, W, sv, dv, m, i, rfl, _⟩ := h; rfl
  obtain ⟨a, b, W, sv, dv, m, i, rfl, ca, hw, wo, hm, hst, hd, hi, rfl⟩ := h
  have hN : (["_law_catalog", "_law_world_here", "_law_states_here", "_law_demand", "_law_there", "_law_due", "_law_told_here", "_law_meeting", "_law_other", "_law_version", "_law_some"] : List PySem.Str).Nodup := by decide
  have h64 := hr.units
  have hl := there_len wo m
  have hm3 : W.mods.length ≤ 3 := by unfold Wr.mods; rw [List.length_map]; exact wo.few
  refine r_setLc 4 (K := K) (N := M) (n := ((W.there m).map PyData.int).length) (own := [("_law_version", 9)]) (I := fun j => mR K fun d => ((W.there m).map PyData.int)[j]? = some d) (fun k d => d = .int ((W.there m).getD k 0)) (fun k => decide ((i : Int) ≤ (W.there m).getD k 0)) 9 eM rfl hN (pi_list pE)
    (ji_list ((j_wthM hw hm (hu_of hr) (jv 1) (J.str (j_ixT (ds := [.str m, .int (i : Int)]) (j_var 3 (P := mD K (dD (m, (i : Int)))) hd) j_int rfl))).val (hw.thr hm))) (by rw [List.length_map]; omega)
    (blk_by (N := ["_law_catalog", "_law_world_here", "_law_states_here", "_law_demand", "_law_there", "_law_due", "_law_told_here", "_law_meeting", "_law_other", "_law_version", "_law_some"]) (sc := defScope (top 65)) (by decide +kernel)) (fun s0 H0 C0 cl fp => pg_name hN rfl (Or.inl rfl)) (fun x => rfl) (fun k x M2 hk eM2 hx => ?_) fun v1 N1 C1 g1 p1 => ?_
  · obtain ⟨d, h1, h2⟩ := hx
    rw [List.length_map] at hk
    rw [List.getElem?_map, List.getElem?_eq_getElem hk] at h1
    have h1' : PyData.int (W.there m)[k] = d := Option.some.inj h1
    subst h1'
    obtain rfl := dp_int h2
    have e : (W.there m).getD k 0 = (W.there m)[k] := by rw [List.getD_eq_getElem?_getD, List.getElem?_eq_getElem hk] <;> rfl
    rw [e]
    exact ⟨fun s0 H0 C0 cl fp => jts_one (jt_cmp op_ge (jv 9) (J.int (j_ixT (ds := [.str m, .int (i : Int)]) (j_var 3 (P := mD K (dD (m, (i : Int)))) (dp_mono eM2 hd)) j_int rfl)) rv_I0), fun _ s0 H0 C0 cl fp => (jv 9).imp fun y M3 g p => ⟨_, rfl, by
      have p' : y = V.int (W.there m)[k] := p
      subst p'
      exact .int _⟩⟩
  have ca1 := ca.mono g1.up
  have hd1 := dp_mono g1.up hd
  have p1' : (mNL M K (· = ((W.there m).filter fun x => decide ((i : Int) ≤ x)).map PyData.int)).p v1 N1 := by
    obtain ⟨l', xs', ds', h1, h2, h3, h4, h5⟩ := p1
    refine ⟨l', xs', ds', h1, h2, h3, h4, ?_⟩
    show ds' = _
    rw [F2.map h5, List.length_map]
    exact filter_places (fun x : Int => decide ((i : Int) ≤ x)) (fun x => PyData.int x) (W.there m) 0
  have hfl : ((W.there m).filter fun x => decide ((i : Int) ≤ x)).length ≤ 10 := Nat.le_trans (List.length_filter_le ..) hl
  refine r_skip (N := N1) ?_ g1.sub fun C2 e2 => ?_
  · refine JW.t (jw_orF (JT.is (jt_cmp op_ne (j_repr hgd h64 (J.val (j_call c1 hr (ja_cons (jv 0) (ja_cons (j_var 3 (P := mD K (dD (m, (i : Int)))) hd1) ja_nil)) (P := mIs (hV (sett W m i))) fun vs M' g p => ?_) (dp_hV _)) ((sett_small wo).ok (by omega) (by omega)) B.repr) (j_repr hgd h64 (j_headCat (N1 := M) (N2 := N1) (d1 := ((W.there m).filter fun x => decide ((i : Int) ≤ x)).map PyData.int) (d2 := [PyData.none]) (j_var 4 p1') (j_lstN (ja_consD (j_non.val .non) ja_nilD) (by show 1 ≤ 100000; decide)) (head_none _) (by rw [List.length_map, List.length_singleton]; omega)) ((sett_small (m := m) (i := i) wo).ok (by omega) (by omega)) B.repr) rv_neS) (by show ((hD (sett W m (i : Int))).shown != (hD (sett W m (i : Int))).shown) = false; rw [bne_self_eq_false]))
      (jw_or1 (JT.is (jt_cmp op_notBl (j_call c2 hr (ja_cons (jv 0) (ja_cons (j_var 3 (P := mD K (dD (m, (i : Int)))) hd1) ja_nil)) (P := mIs (.bl true)) fun vs M' g p => ?_) j_bl rv_notB) rfl)))
    · obtain ⟨x, y, rfl, rfl, hy⟩ := la2 p
      exact ⟨a, W, y, m, i, rfl, ca1.mono g, wo, hm, hy, by omega, rfl⟩
    · obtain ⟨x, y, rfl, rfl, hy⟩ := la2 p
      exact ⟨a, W, y, m, i, rfl, ca1.mono g, wo, hm, hy, by omega, rfl⟩
  have s2 := g1.sub.trans e2
  have g2 := g1.grow e2
  refine r_par 5 6 rfl hN (N := N1) (P1 := mFol N1 K W m i) (P2 := fun _ N3 => mTold N3 K W m i) (j_call c3 hr (ja_cons (jv 1) (ja_cons (j_var 3 (P := mD K (dD (m, (i : Int)))) hd1) ja_nil)) fun vs M' g p => ?_) (fun v3 N3 e3 p3 => j_call c4 hr (ja_cons (jv 0) (ja_cons (j_var 3 (P := mD K (dD (m, (i : Int)))) (dp_mono e3 hd1)) ja_nil)) fun vs M' g p => ?_) s2 fun vd vt N3 C3 N4 C4 g3 p3 g4 p4 => ?_
  · obtain ⟨x, y, rfl, rfl, hy⟩ := la2 p
    refine ⟨b, W, y, m, i, rfl, hw.mono (g1.up.trans g), wo, hm, hy, fun v H h => ?_⟩
    show (match sett W m i with
      | some t => (mNL N1 K (· = (dueL W m t).map dD)).p v H
      | none => v = .non)
    have h' : (match sett W m i with
      | some t => (mNL M' K (· = (dueL W m t).map dD)).p v H
      | none => v = .non) := h
    cases hs : sett W m i with
    | none => rw [hs] at h'; exact h'
    | some t => rw [hs] at h'; exact mNL_up (R' := (· = (dueL W m t).map dD)) g h' fun _ h => h
  · obtain ⟨x, y, rfl, rfl, hy⟩ := la2 p
    exact ⟨a, W, y, m, i, rfl, ca1.mono (e3.trans g), wo, hm, hy, by omega, mTold_up g⟩
  have g5 := (g2.trans g3).trans g4
  have hw5 := hw.mono g5.up
  have ca5 := ca.mono g5.up
  have hd5 := dp_mono g5.up hd
  -- the states that meet the demand
  obtain ⟨ls, SS, xs, rfl, hls, hfs, hSl, hSt⟩ := (mStates W).mono g5.up hst
  let bs : Nat → Bool := fun k => decide ((i : Int) ≤ (((SS.getD k []).getD (W.mods.idxOf m) 0 : Nat) : Int))
  have hmeet : ∀ k, k < SS.length → PSt W W.mods.length (SS.getD k []) := fun k hk => by
    rw [List.getD_eq_getElem?_getD, List.getElem?_eq_getElem hk]
    exact hSt _ (List.getElem_mem hk)
  refine r_setLcM 7 (N := N4) (n := SS.length) (own := [("_law_some", 10)]) (fun k => mTU (SS.getD k [])) bs 10 g5.sub rfl hN (pi_list pE) (ji_listM (K := K) (as := SS) (E := mTU) (J.ev (jv 2)) hls hfs) hSl
    (blk_by (N := ["_law_catalog", "_law_world_here", "_law_states_here", "_law_demand", "_law_there", "_law_due", "_law_told_here", "_law_meeting", "_law_other", "_law_version", "_law_some"]) (sc := defScope (top 65)) (by decide +kernel)) (fun s0 H0 C0 cl fp => pg_name hN rfl (Or.inl rfl)) (fun x => rfl) (fun k x M2 hk eM2 hx => ?_) fun v7 N7 C7 g7 p7 => ?_
  · obtain ⟨ss, hss, hx⟩ := hx
    have egd : SS.getD k [] = ss := by rw [List.getD_eq_getElem?_getD, hss] <;> rfl
    refine ⟨fun s0 H0 C0 cl fp => jts_one ?_, fun _ s0 H0 C0 cl fp => j_var 10 (by rw [egd]; exact hx)⟩
    show JT _ _ _ _ (decide ((i : Int) ≤ (((SS.getD k []).getD (W.mods.idxOf m) 0 : Nat) : Int)))
    rw [egd]
    refine jt_val (j_call c5 hr (ja_cons (jv 1) (ja_cons (j_var 10 hx) (ja_cons (j_var 3 (P := mD K (dD (m, (i : Int)))) (dp_mono eM2 hd5)) ja_nil))) fun vs M' g p => ?_)
    obtain ⟨x1, y1, z1, rfl, rfl, hy1, hz1⟩ := la3 p
    exact ⟨b, W, y1, ss, z1, m, i, rfl, hw5.mono (eM2.trans g), hm, hy1, (hSt ss (List.mem_of_getElem? hss)).len, hz1, rfl⟩
  have g8 := g5.trans g7
  have hd8 := dp_mono g8.up hd
  cases hs : sett W m (i : Int) with
  | none =>
    have p3' : (match sett W m i with
      | some t => (mNL N1 K (· = (dueL W m t).map dD)).p vd N3
      | none => vd = .non) := p3
    rw [hs] at p3'
    subst p3'
    obtain ⟨lt, rfl, hlt0, hlt⟩ := p4
    rw [hs] at hlt
    have hlt8 := g7.up _ _ hlt
    -- nothing meets it
    have hnone : (List.range SS.length).filter bs = [] := List.filter_eq_nil_iff.mpr fun k hk => by
      have hk' := List.mem_range.mp hk
      have hfil : (W.there m).filter (fun x => decide ((i : Int) ≤ x)) = [] := by
        cases e : (W.there m).filter (fun x => decide ((i : Int) ≤ x)) with
        | nil => rfl
        | cons t r =>
          unfold sett at hs
          rw [e] at hs
          cases hs
      have := meets_none (PSt.ok wo (hmeet k hk')) hm hfil
      show ¬ decide ((i : Int) ≤ (((SS.getD k []).getD (W.mods.idxOf m) 0 : Nat) : Int)) = true
      rw [decide_eq_true_eq]
      exact this
    rw [hnone] at p7
    have hdm : Dp K N7 v7 (.list []) := by
      obtain ⟨l', xs', rfl, _, h3, h4⟩ := p7
      have : xs' = [] := by cases h4; rfl
      subst this
      exact .lst (SqL.of h3) .nil
    have hdt : Dp K N7 (.ref lt) (.list [.str "cannot", .str m, .int (i : Int)]) := .lst (SqL.of hlt8) (.cons (.str _) (.cons (.str _) (.cons (.int _) .nil)))
    have sh : ShD (.list [.str "cannot", .str m, .int (i : Int)]) 1 27 := shd_list (k := 0) (b := 8) fun x hx => by
      rcases List.mem_cons.mp hx with rfl | hx
      · exact shd_str (by decide +kernel) (by decide +kernel)
      · rcases List.mem_cons.mp hx with rfl | hx
        · exact shd_name (wo.nm _ hm)
        · have : x = .int (i : Int) := by simpa using hx
          subst this
          exact (shd_nat (by omega)).mono (Nat.le_refl _) (by omega)
    have sok := sh.ok (by omega) (by omega)
    refine r_take (N := N7) (jt_cmp op_isN (jv 5) j_non (by rw [show V.bl true = V.bl (decide (V.non = V.non)) from rfl]; exact rv_isN)) g8.sub fun C9 e9 => ?_
    refine r_ret (N := N7) (P := mIs (.bl true)) (j_andT ((j_cmp op_eq (j_repr hgd h64 (j_var 6 (P := mD K _) hdt) sok B.repr) (j_repr hgd h64 (j_lst (K := K) (ja_consD (j_str.val (.str _)) (ja_consD (j_ixT (ds := [.str m, .int (i : Int)]) (j_var 3 (P := mD K (dD (m, (i : Int)))) hd8) j_int rfl) (ja_consD (j_ixT (ds := [.str m, .int (i : Int)]) (j_var 3 (P := mD K (dD (m, (i : Int)))) hd8) j_int rfl) ja_nilD))) (by show 3 ≤ 100000; decide)) sok B.repr) rv_eqS).is (by rw [beq_self_eq_true])) (j_one (J.is (j_cmpP (P := mIs (.bl (decide (([] : List PyData) = [])))) (op_eqD h64) (j_var 7 (P := mD K (.list [])) hdm) (j_lst (K := K) ja_nilD) fun x y M g hx hy => rp_rv (rv_eqNil rfl hx hy) rfl) rfl))) (g8.sub.trans e9) fun v N' C' g p => rt v N' C' ((g8.grow e9).trans g) p
  | some t0 =>
    obtain ⟨t, rfl, htc⟩ := sett_some hs
    have p3' : (match sett W m i with
      | some t => (mNL N1 K (· = (dueL W m t).map dD)).p vd N3
      | none => vd = .non) := p3
    rw [hs] at p3'
    obtain ⟨ld, xd, dd, rfl, hld1, hld3, hxd, rfl⟩ := p3'
    obtain ⟨lt, rfl, hlt0, hlt⟩ := p4
    rw [hs] at hlt
    obtain ⟨l2, x2, hltl, hl20, hne, hl2, hx2⟩ := hlt
    have hlt8 := g7.up _ _ hltl
    have hl28 := g7.up _ _ hl2
    have hx28 := dps_mono g7.up hx2
    have hld8 := (g4.up.trans g7.up) _ _ hld3
    have hxd8 := dps_mono (g4.up.trans g7.up) hxd
    have hdd : Dp K N7 (.ref ld) (.list ((dueL W m t).map dD)) := .lst (SqL.of hld8) hxd8
    have hdt : Dp K N7 (.ref lt) (.list [.str "done", .list ((dueL W m t).map dD)]) := .lst (SqL.of hlt8) (.cons (.str _) (.cons (.lst (SqL.of hl28) hx28) .nil))
    have shd := shd_due wo hm t
    have shd2 : ShD (.list [.str "done", .list ((dueL W m t).map dD)]) 3 402 := shd_list (k := 2) (b := 200) fun x hx => by
      rcases List.mem_cons.mp hx with rfl | hx
      · exact (shd_str (by decide +kernel) (by decide +kernel)).mono (by omega) (by omega)
      · have : x = .list ((dueL W m t).map dD) := by simpa using hx
        subst this
        exact shd
    have sok := shd.ok (by omega) (by omega)
    have sok2 := shd2.ok (by omega) (by omega)
    have hne2 : l2 ≠ ld := fun z => by rw [z] at hl20; rw [hld3] at hl20; cases hl20
    refine r_skip (N := N7) (jt_cmp op_isN (jv 5) j_non (by rw [show V.bl false = V.bl (decide (V.ref ld = V.non)) from rfl]; exact rv_isN)) g8.sub fun C9 e9 => ?_
    refine r_skip (N := N7) ((jt_cmp op_ne (j_repr hgd h64 (j_var 6 (P := mD K _) hdt) sok2 B.repr) (j_repr hgd h64 (j_lst (K := K) (ja_consD (j_str.val (.str _)) (ja_consD (j_var 5 (P := mD K _) hdd) ja_nilD)) (by show 2 ≤ 100000; decide)) sok2 B.repr) rv_neS).is (by rw [bne_self_eq_false])) (g8.sub.trans e9) fun C10 e10 => ?_
    have s10 := (g8.sub.trans e9).trans e10
    have g10 := (g8.grow e9).grow e10
    obtain ⟨lm, xm, rfl, hlm0, hlm, hfm⟩ := p7
    refine r_for (N := N7) (n := ((dueL W m t).map dD).length) (I := fun j => mR K fun d => ((dueL W m t).map dD)[j]? = some d) (pi_list pE) (ji_list (j_var 5 (P := mD K _) hdd)) s10 (pg_name (i := 8) hN rfl (Or.inr rfl)) PassesOwn.never rfl
      (fun N9 k σ C9 => ∃ o8, Gr M C N9 C9 ∧ Ex N7 N9 ∧ σ = [some (.ref a.c), some (.ref b.w), some (.ref ls), some dv, some v1, some (.ref ld), some (.ref lt), some (.ref lm), o8, none, none])
      (fun N9 C9 g9 => ⟨none, g10.trans g9, g9.up, rfl⟩) (fun N9 k σ C9 ⟨_, h, _⟩ => h.sub) (fun N9 k x σ C9 M9 C11 e9' hk hP9 gM hx => ?_) fun N9 σ C9 e9' hP9 => ?_
    · obtain ⟨o8, g9, e79, rfl⟩ := hP9
      obtain ⟨d, hd1', hd2'⟩ := hx
      rw [List.length_map] at hk
      rw [List.getElem?_map, List.getElem?_eq_getElem hk] at hd1'
      have hd1'' : dD (dueL W m t)[k] = d := Option.some.inj hd1'
      subst hd1''
      have hmem : (dueL W m t)[k] ∈ dueL W m t := List.getElem_mem hk
      generalize (dueL W m t)[k] = q at hd2' hmem
      obtain ⟨hqm, _, _⟩ := due_ok wo hm hmem
      have g11 := g9.trans gM
      have e7M := e79.trans gM.up
      refine r_skip (N := M9) ?_ g11.sub fun C12 e12 => r_nil ⟨some x, ⟨g9.up, g9.sub.trans (gM.ext.trans e12), g9.ext.trans (gM.ext.trans e12), g9.dom⟩, e79, rfl⟩
      have hfm9 := hfm.mono2 fun k x h => (mTU (SS.getD k [])).mono e7M h
      refine jt_notF (jt_val (j_allT (idx := (List.range ((List.range SS.length).filter bs).length).filter fun _ => true) (E := fun _ d => d = .bool true) rfl ?_ (fun _ _ _ h => h) B.all))
      refine j_lc (K := K) (own := [("_law_some", 10)]) (fun _ d => d = .bool true) (fun _ => true) 10 rfl hN (pi_list pE) (ji_listM (K := K) (as := (List.range SS.length).filter bs) (E := fun k => mTU (SS.getD k [])) (J.ev (jv 7)) (e7M _ _ hlm) hfm9) (Nat.le_trans (List.length_filter_le ..) (by rw [List.length_range]; exact hSl))
        (blk_by (N := ["_law_catalog", "_law_world_here", "_law_states_here", "_law_demand", "_law_there", "_law_due", "_law_told_here", "_law_meeting", "_law_other", "_law_version", "_law_some"]) (sc := defScope (top 65)) (by decide +kernel)) (fun s0 H0 C0 cl fp => pg_name hN rfl (Or.inl rfl)) (fun x => rfl) fun k2 x2 M2 hk2 eM2 hx2 => ⟨fun s0 H0 C0 cl fp => jts_nil, fun _ s0 H0 C0 cl fp => ?_⟩
      obtain ⟨k3, hk3, hx3⟩ := hx2
      have hmem3 := List.mem_of_getElem? hk3
      obtain ⟨hr3, hb3⟩ := List.mem_filter.mp hmem3
      have hps := hmeet k3 (List.mem_range.mp hr3)
      have hm3' : (i : Int) ≤ (((SS.getD k3 []).getD (W.mods.idxOf m) 0 : Nat) : Int) := of_decide_eq_true hb3
      have hgood : q.2 ≤ (((SS.getD k3 []).getD (W.mods.idxOf q.1) 0 : Nat) : Int) := by
        cases e : (W.there m).filter (fun x => decide ((i : Int) ≤ x)) with
        | nil => unfold sett at hs; rw [e] at hs; cases hs
        | cons t1 r1 =>
          have : t1 = (t : Int) := by
            unfold sett at hs
            rw [e] at hs
            exact Option.some.inj hs
          subst this
          exact meets_due wo (PSt.ok wo hps) hm e hm3' hmem
      refine J.imp (P := mIs (.bl true)) (j_call c5 (by exact hr) (ja_cons (jv 1) (ja_cons (j_var 10 hx3) (ja_cons (j_var 8 (P := mD K (dD q)) (dp_mono eM2 hd2')) ja_nil))) fun vs M' g p => ?_) fun y M3 g p => ⟨.bool true, rfl, ?_⟩
      · obtain ⟨x1, y1, z1, rfl, rfl, hy1, hz1⟩ := la3 p
        exact ⟨b, W, y1, SS.getD k3 [], z1, q.1, q.2, rfl, hw.mono (g11.up.trans (eM2.trans g)), hqm, hy1, hps.len, hz1, by rw [decide_eq_true hgood]⟩
      · have p' : y = V.bl true := p
        subst p'
        exact .bl true
    · obtain ⟨o8, g9, e79, rfl⟩ := hP9
      -- told[1].append(None)
      have hM2 : M l2 = none := fresh_back (g2.trans g3).up hl20
      have hl29 := e79 _ _ hl28
      have gd : Gr M C (L2.del N9 l2) C9 := g9.del hM2
      have hCl2 : C l2 = none := dom_new g9 hl29 hM2 fun _ z => by cases z
      have hlt9 : (L2.del N9 l2) lt = some (.lst [.str "done", .ref l2]) := by rw [del_ne hne]; exact e79 _ _ hlt8
      have hld9 : (L2.del N9 l2) ld = some (.lst xd) := by rw [del_ne (Ne.symm hne2)]; exact e79 _ _ hld8
      have hxd9 : DpAll K (L2.del N9 l2) xd ((dueL W m t).map dD) := dps_del (fun c o e hno => by
        have : c ≠ l2 := fun z => by rw [z, hl29] at e; cases e; exact hno _ rfl
        rw [del_ne this]; exact e) (noLs_all fun d hd => by
          obtain ⟨q, _, rfl⟩ := List.mem_map.mp hd
          simp [dD, noL, noLs]) (dps_mono e79 hxd8)
      refine r_app (l := l2) (xs := x2) (N := L2.del N9 l2) (j_ixX (j_var 6 (P := mIs (.ref lt)) rfl) j_int hlt9 (atI_nat (i := 1) rfl)) j_non gd.sub del_same (g9.sub _ _ hl29) ?_ fun v N' C' g h1 p => ?_
      · rw [dps_len hx2, List.length_map]
        have := dueL_len wo m t
        omega
      have g12 := (gd.trans g).mut (o := .lst (x2 ++ [v])) hCl2 h1
      have hdd9 : Dp K N' (.ref ld) (.list ((dueL W m t).map dD)) := .lst (SqL.of (g.up _ _ hld9)) (dps_mono g.up hxd9)
      have ca9 := ca.mono g12.up
      have hd9 := dp_mono g12.up hd
      refine r_ret (N := N') (P := mIs (.bl true)) ((j_cmp op_eq (j_repr hgd h64 (j_callX F2' hr m2 k2 b2 (ja_cons (jv 0) (ja_cons (j_var 3 (P := mD K (dD (m, (i : Int)))) hd9) ja_nil)) (P := mD K (.list ((dueL W m t).map dD))) fun vs N5 C5 e5 e6 p Q q => ?_) sok B.repr) (j_repr hgd h64 (j_var 5 (P := mD K _) hdd9) sok B.repr) rv_eqS).is (by rw [beq_self_eq_true])) g12.sub fun v N'' C'' g' p => rt v N'' C'' (g12.trans g') p
      obtain ⟨x, y, rfl, rfl, hy⟩ := la2 p
      refine ⟨N5, a, W, y, m, i, rfl, e6, ca9.mono e5, wo, hm, hy, by omega, fun t' ht' v' N6 C6 g6 p6 => q v' N6 C6 g6 ?_, fun hn => ?_⟩
      · rw [hs] at ht'
        cases ht'
        exact mNL_D p6 fun _ h => h
      · rw [hs] at hn
        cases hn
end
end Gs

set_option Elab.async false
set_option linter.all false
set_option maxRecDepth 100000
set_option maxHeartbeats 4000000
/-! GsLaw4: _law_all_right; the hidden numbers. -/
namespace Gs
open PySem PySem.Spec PyProof.Rows L2 Evl
section
variable {P : Program} {w : World} {K : PySem.W.Frag} {mg : PySem.Str → Option Value} {base : Heap} {Cc : Addr}
def preAll (K : PySem.W.Frag) (Cc : Addr) (vs : List V) (N : Hp) (P : MP) : Prop := ∃ a b W, vs = [.ref a.c, .ref b.w] ∧ CatAt K Cc N a W ∧ WldAt K N b W ∧ WOk W ∧ P = mIs (.bl true)
theorem ok_all_right (F : DF K mg "_law_all_right" (top 66)) (B : Bt mg) (T : CatC K Cc) (c1 : Cl P w K mg base 3 "_law_states" (preStates K)) (c2 : Mt P w K mg base 2 Cc "versions" (preVers K Cc)) (c3 : ClG P w K mg base 8 "_law_demand_right" (preDR K Cc)) : ClG P w K mg base 9 "_law_all_right" (preAll K Cc) := by
  refine clG_of (N := ["_law_catalog", "_law_world_here", "_law_states_here", "_law_name_here", "_law_version"]) (ps := ["_law_catalog", "_law_world_here"]) F (by decide +kernel) (fun vs M Pm h => ?_) (fun _ _ _ _ _ _ us hl => match us, hl with | [_, _], _ => rfl) fun f cdv A outer s C E vs M Pm D hr hgd eM h rt => ?_
  · obtain ⟨a, b, W, rfl, _⟩ := h; rfl
  obtain ⟨a, b, W, rfl, ca, hw, wo, rfl⟩ := h
  have hN : (["_law_catalog", "_law_world_here", "_law_states_here", "_law_name_here", "_law_version"] : List PySem.Str).Nodup := by decide
  refine r_set 2 (N := M) (P := mStates W) (j_call c1 hr (ja_cons (jv 1) ja_nil) fun vs M' g p => ?_) eM hN fun sv N1 C1 g1 p1 => ?_
  · obtain ⟨x, rfl, rfl⟩ := la1 p
    exact ⟨b, W, rfl, hw.mono g, wo, rfl⟩
  have hw1 := hw.mono g1.up
  refine r_for (N := N1) (n := (strsD W.mods).length) (I := fun j => mR K fun d => (strsD W.mods)[j]? = some d) (pi_list pE) (ji_list ((j_wmo hw1 (hu_of hr) (jv 1)).val hw1.mod)) g1.sub (pg_name (i := 3) hN rfl (Or.inl rfl)) PassesOwn.never rfl
    (fun N2 i σ C2 => ∃ o3 o4, Gr M C N2 C2 ∧ Ex N1 N2 ∧ σ = [some (.ref a.c), some (.ref b.w), some sv, o3, o4])
    (fun N2 C2 g2 => ⟨none, none, g1.trans g2, g2.up, rfl⟩) (fun N2 i σ C2 ⟨_, _, h, _⟩ => h.sub) (fun N2 i x σ C2 M2 C3 e2 hi hP2 gM hx => ?_) fun N2 σ C2 e2 hP2 => ?_
  · obtain ⟨o3, o4, g2, e12, rfl⟩ := hP2
    obtain ⟨d, hd1, hd2⟩ := hx
    unfold strsD at hd1 hi
    rw [List.length_map] at hi
    rw [List.getElem?_map, List.getElem?_eq_getElem hi] at hd1
    have hd1' : PyData.str W.mods[i] = d := Option.some.inj hd1
    subst hd1'
    obtain rfl := dp_str hd2
    have hm : W.mods[i] ∈ W.mods := List.getElem_mem hi
    have g3 := g2.trans gM
    have ca3 := ca.mono g3.up
    have hcs := wo.cs W.mods[i]
    refine r_for (N := M2) (n := W.cnt W.mods[i] + 3) (I := fun j => mIs (.int (j : Nat))) (pi_range1 rfl B.range pA) (ji_range (i := (W.cnt W.mods[i] : Int) + 3) (ja_cons (j_add (j_meth c2 T.cl hr (jv 0) ca3.obj (catF_no a (by decide +kernel)) (ja_cons (jv 3) ja_nil) (P := mIs (.int (W.cnt W.mods[i]))) fun vs M' g p => ?_) j_int) ja_nil) (by omega) (by omega)) g3.sub (pg_name (i := 4) hN rfl (Or.inl rfl)) PassesOwn.never rfl
      (fun N4 j σ C4 => ∃ o4, Gr M C N4 C4 ∧ Ex N2 N4 ∧ Ex N1 N4 ∧ σ = [some (.ref a.c), some (.ref b.w), some sv, some (.str W.mods[i]), o4])
      (fun N4 C4 g4 => ⟨o4, g3.trans g4, gM.up.trans g4.up, e12.trans (gM.up.trans g4.up), rfl⟩) (fun N4 j σ C4 ⟨_, h, _⟩ => h.sub) (fun N4 j x σ C4 M4 C5 e4 hj hP4 gM4 hx => ?_) fun N4 σ C4 e4 hP4 => ?_
    · obtain ⟨x, rfl, rfl⟩ := la1 p
      exact ⟨a, W, _, rfl, ca3.mono g, wo, hm, rfl⟩
    · obtain ⟨o4, g4, e24, e14, rfl⟩ := hP4
      have hx' : x = V.int (j : Nat) := hx
      subst hx'
      have g5 := g4.trans gM4
      refine r_skip (N := M4) ?_ g5.sub fun C6 e6 => r_nil ⟨some (.int (j : Nat)), ⟨g4.up, g4.sub.trans (gM4.ext.trans e6), g4.ext.trans (gM4.ext.trans e6), g4.dom⟩, e24, e14, rfl⟩
      refine jt_notF (jt_val (j_callG c3 hr hgd (ja_cons (jv 0) (ja_cons (jv 1) (ja_cons (j_var 2 (P := mStates W) ((mStates W).mono (e14.trans gM4.up) p1)) (ja_cons (j_tup (K := K) (ja_consD ((jv 3).val (.str _)) (ja_consD ((jv 4).val (.int _)) ja_nilD)) (by show 2 ≤ 100000; decide)) ja_nil)))) fun vs M' g p => ?_))
      obtain ⟨x, y, z, y2, rfl, rfl, rfl, hz, hy2⟩ := la4 p
      exact ⟨a, b, W, z, y2, W.mods[i], j, rfl, ca.mono (g5.up.trans g), hw.mono (g5.up.trans g), wo, hm, hz, hy2, by omega, rfl⟩
    · obtain ⟨o4, g4, e24, e14, rfl⟩ := hP4
      exact r_nil ⟨some (.str W.mods[i]), o4, ⟨g2.up, e24.trans g4.sub, g4.ext, g2.dom⟩, e12, rfl⟩
  · obtain ⟨o3, o4, g2, e12, rfl⟩ := hP2
    exact r_ret (N := N2) (P := mIs (.bl true)) j_bl g2.sub fun v N' C' g p => rt v N' C' (g2.trans g) p
end
end Gs

set_option Elab.async false
set_option linter.all false
set_option maxRecDepth 100000
set_option maxHeartbeats 4000000
/-! GsRng: two hidden numbers; draws. -/
namespace Gs
open PySem PySem.Spec PyProof.Rows L2 Evl
/-- at r: a list of two numbers, not told -/
def rngO (r : Addr) : HO := .ext fun h => ∃ (a b : Int) (ta tb : Tok) (n : Nat), 0 ≤ a ∧ 0 ≤ b ∧ b < 2147483648 ∧ h.get? r = some ({ cls := .type "list", data := .seq #[.int a ta, .int b tb] n } : Obj)
theorem rngO_tup {r : Addr} {xs : List V} : rngO r ≠ .tup xs := fun z => by
  have z' : HO.ext _ = HO.tup xs := z
  cases z'
section
variable {X : Cx} {pins : List (Addr × Obj)} {σ : L2.St} {H : Hp} {s : Shared} {r : Addr} {a b : Int}
theorem rng_open (I : Inv X pins σ H s) (e : H r = some (rngO r)) : ∃ a b : Int, 0 ≤ a ∧ 0 ≤ b ∧ b < 2147483648 ∧ Inv X pins σ (upd H r (.lst [.int a, .int b])) s := by
  have x : ObjOk X.prog X.w H s.heap r (rngO r) := I.hok r _ e
  obtain ⟨⟨a, b, ta, tb, n, h1, h2, h3, h4⟩, _⟩ := x
  refine ⟨a, b, h1, h2, h3, ?_⟩
  have J := I.write (t' := s.toks) (h' := s.heap) (x := r) (e := r) (o := .lst [.int a, .int b]) (by rw [e]; exact True.intro) (.inl rfl) (fun _ _ _ z => z) ⟨_, h4⟩ ⟨by show 2 ≤ sizeLine; exact sz_of (by decide), [.int a ta, .int b tb], n, .cons ⟨ta, rfl⟩ (.cons ⟨tb, rfl⟩ .nil), h4⟩
  exact J
theorem rng_close (I : Inv X pins σ H s) (e : H r = some (.lst [.int a, .int b])) (h1 : 0 ≤ a) (h2 : 0 ≤ b) (h3 : b < 2147483648) : Inv X pins σ (upd H r (rngO r)) s := by
  have x : ObjOk X.prog X.w H s.heap r (.lst [.int a, .int b]) := I.hok r _ e
  obtain ⟨_, its, n, rv, h4⟩ := x
  cases rv with
  | cons ra rr =>
    cases rr with
    | cons rb rr =>
      cases rr
      obtain ⟨ta, rfl⟩ := ra
      obtain ⟨tb, rfl⟩ := rb
      have J := I.write (t' := s.toks) (h' := s.heap) (x := r) (e := r) (o := rngO r) (by rw [e]; exact True.intro) (.inl rfl) (fun _ _ _ z => z) ⟨_, h4⟩ ⟨⟨a, b, ta, tb, n, h1, h2, h3, h4⟩, ⟨_, h4⟩, fun g1 g2 ⟨a', b', ta', tb', n', q1, q2, q3, q4⟩ k => ⟨a', b', ta', tb', n', q1, q2, q3, k _ q4⟩⟩
      exact J
variable {st : List Stmt} {D : Ends} {C : Hp}
theorem r_open (e : C r = some (rngO r)) (k : ∀ a b : Int, 0 ≤ a → 0 ≤ b → b < 2147483648 → tR X st D σ (upd C r (.lst [.int a, .int b]))) : tR X st D σ C := fun pins s I => by
  obtain ⟨a, b, h1, h2, h3, J⟩ := rng_open I e
  exact k a b h1 h2 h3 pins s J
theorem r_closeV (h : tR X st { nx := fun _ _ => False, rt := fun v H' => ∃ (r : Addr) (a b : Int), H' r = some (.lst [.int a, .int b]) ∧ 0 ≤ a ∧ 0 ≤ b ∧ b < 2147483648 ∧ D.rt v (upd H' r (rngO r)) } σ C) : tR X st D σ C := fun pins s I => by
  refine thn (h pins s I) fun f s' q => ?_
  cases f with
  | next => obtain ⟨_, _, _, z⟩ := q; exact z.elim
  | brk => obtain ⟨_, _, _, z⟩ := q; exact z.elim
  | cont => obtain ⟨_, _, _, z⟩ := q; exact z.elim
  | ret u =>
    obtain ⟨v, σ', H', J, rv, r, a, b, h1, h2, h3, h4, h5⟩ := q
    exact ⟨v, σ', _, rng_close J h1 h2 h3 h4, rv, h5⟩
end
/-- one object -/
def sing (r : Addr) (o : HO) : Hp := fun b => if b = r then some o else none
theorem sing_same {r : Addr} {o : HO} : sing r o r = some o := if_pos rfl
theorem sing_ex {r : Addr} {o : HO} {C : Hp} (h : C r = some o) : Ex (sing r o) C := fun b u e => by
  by_cases hb : b = r
  · subst hb
    rw [sing_same] at e
    cases e
    exact h
  · have : (none : Option HO) = some u := (if_neg hb).symm.trans e
    cases this
def noHp : Hp := fun _ => none
theorem no_ex {C : Hp} : Ex noHp C := fun _ _ e => by cases e
section
variable {P : Program} {w : World} {K : PySem.W.Frag} {mg : PySem.Str → Option Value} {base : Heap}
def preDraw (vs : List V) (N : Hp) (P : MP) : Prop := ∃ r m, vs = [.ref r, .int m] ∧ N r = some (rngO r) ∧ 0 < m ∧ m < 1073741824 ∧ P = mI fun j => 0 ≤ j ∧ j < m
theorem ex_back {C C1 C2 : Hp} {r : Addr} {o : HO} (h : C r = some o) (e : ∀ b u, b ≠ r → C b = some u → C1 b = some u) (e2 : ∀ b u, b ≠ r → C1 b = some u → C2 b = some u) : Ex C (upd C2 r o) := fun b u hb => by
  by_cases hbr : b = r
  · subst hbr
    rw [h] at hb
    cases hb
    exact upd_same
  · rw [upd_ne hbr]
    exact e2 b u hbr (e b u hbr hb)
theorem ok_draw (F : DF K mg "_law_draw" (top 50)) (B : Bt mg) : Cl P w K mg base 1 "_law_draw" preDraw := by
  refine cl_of (N := ["_law_rng_here", "_law_many", "_law_digit"]) (ps := ["_law_rng_here", "_law_many"]) F (by decide +kernel) (fun vs M Pm h => ?_) (fun _ _ _ _ _ _ us hl => match us, hl with | [_, _], _ => rfl) fun f cdv A outer s C E vs M Pm D hr eM h rt nx => ?_
  · obtain ⟨r, m, rfl, _⟩ := h; rfl
  obtain ⟨r, m, rfl, hM, hm0, hm1, rfl⟩ := h
  have hN : (["_law_rng_here", "_law_many", "_law_digit"] : List PySem.Str).Nodup := by decide
  have hC := eM _ _ hM
  refine r_closeV (r_open hC fun a b ha hb hb2 => ?_)
  have hC1 : (upd C r (.lst [.int a, .int b])) r = some (.lst [.int a, .int b]) := upd_same
  generalize hC1' : upd C r (.lst [.int a, .int b]) = C1 at hC1
  have k1 : ∀ c u, c ≠ r → C c = some u → C1 c = some u := fun c u hc h => by rw [← hC1', upd_ne hc]; exact h
  have fin : ∀ (v : V) (C2 : Hp), (∀ c u, c ≠ r → C1 c = some u → C2 c = some u) → (mI fun j => 0 ≤ j ∧ j < m).p v M → D.rt v (upd C2 r (rngO r)) := fun v C2 k2 p => rt v M _ (Gr.of_ex eM (ex_back hC k1 k2)) p
  refine r_if (N := sing r (.lst [.int a, .int b])) (k := decide (0 < a)) (jt_cmp op_gt (j_ixX (jv 0) j_int sing_same (atI_nat (i := 0) rfl)) j_int rv_I0) (sing_ex hC1) (fun hk C2 e2 => ?_) fun hk C2 e2 => ?_
  · refine r_asg (N := sing r (.lst [.int a, .int b])) (P := mT2 (.int (a / m)) (.int (a % m))) (j_cb call_divmod B.dm PyProof.Rows.Boot.«divmod» (ja_cons (j_ixX (jv 0) j_int sing_same (atI_nat (i := 0) rfl)) (ja_cons (jv 1) ja_nil)) fun vs M' g p => ?_) (sing_ex (e2 _ _ hC1)) (pg_tup rfl (pgs_cons (pg_sub pE pE set_list) (pgs_cons (pg_name (i := 2) hN rfl (Or.inl rfl)) pgs_nil))) fun v N3 C3 g3 p3 => ?_
    · obtain ⟨x, y, rfl, rfl, rfl⟩ := la2 p
      refine fun C0 eC Q q => ⟨a, m, rfl, ⟨hm0, hm1⟩, fun p hp => ?_⟩
      exact q (.ref p) (upd M' p (.tup _)) _ ((Gr.refl eC).new hp) ⟨p, rfl, upd_same⟩
    · obtain ⟨tb, rfl, htb⟩ := p3
      have hC3 : C3 r = some (.lst [.int a, .int b]) := g3.ext _ _ (e2 _ _ hC1)
      refine ⟨tb, _, rfl, SqT.of (g3.sub _ _ htb), rfl, _, _, rfl, ?_⟩
      refine (jv 0 : J _ _ _ noHp _).ev C3 no_ex _ fun C4 e4 => (j_int : J _ _ _ noHp _).ev C4 no_ex _ fun C5 e5 => ⟨r, _, _, 0, rfl, rfl, (e4.trans e5) _ _ hC3, rfl, ?_⟩
      refine ⟨_, _, rfl, rfl, ?_⟩
      have hna : 0 ≤ a / m := Int.ediv_nonneg ha (by omega)
      refine r_ret (N := noHp) (P := mIs (.int (a % m))) (jv 2) no_ex fun v N' C' g p => ⟨r, a / m, b, g.ext _ _ upd_same, hna, hb, hb2, fin v C' (fun c u hc h => g.ext _ _ (by rw [upd_ne hc]; exact (e4.trans e5) _ _ (g3.ext _ _ (e2 _ _ h)))) ⟨_, p, Int.emod_nonneg a (by omega), Int.emod_lt_of_pos a hm0⟩⟩
  · refine r_nil ?_
    let b1 : Int := (b * 48271 + 10007) % 2147483587
    have hb1 : 0 ≤ b1 ∧ b1 < 2147483587 := ⟨Int.emod_nonneg _ (by decide), Int.emod_lt_of_pos _ (by decide)⟩
    refine r_asg (N := sing r (.lst [.int a, .int b])) (P := mIs (.int b1)) (j_mod (j_add (j_mul (j_ixX (jv 0) j_int sing_same (atI_nat (i := 1) rfl)) j_int (.inl ⟨by omega, by omega⟩)) j_int) j_int (by decide)) (sing_ex (e2 _ _ hC1)) (pg_sub pE pE set_list) fun v N3 C3 g3 p3 => ?_
    have p3' : v = V.int b1 := p3
    subst p3'
    have hC3 : C3 r = some (.lst [.int a, .int b]) := g3.ext _ _ (e2 _ _ hC1)
    refine (jv 0 : J _ _ _ noHp _).ev C3 no_ex _ fun C4 e4 => (j_int : J _ _ _ noHp _).ev C4 no_ex _ fun C5 e5 => ⟨r, _, _, 1, rfl, rfl, (e4.trans e5) _ _ hC3, rfl, ?_⟩
    have hs : (upd C5 r (.lst ([V.int a, V.int b].set 1 (V.int b1)))) r = some (.lst [.int a, .int b1]) := upd_same
    generalize hC6 : upd C5 r (.lst ([V.int a, V.int b].set 1 (V.int b1))) = C6 at hs
    refine r_ret (N := sing r (.lst [.int a, .int b1])) (P := mIs (.int (b1 * b1 % 2147483549 / 11 % m))) (j_mod (j_fdiv (j_mod (j_mul (j_ixX (jv 0) j_int sing_same (atI_nat (i := 1) rfl)) (j_ixX (jv 0) j_int sing_same (atI_nat (i := 1) rfl)) (.inl ⟨by omega, by omega⟩)) j_int (by decide)) j_int ⟨by decide, by decide⟩) (jv 1) hm0) (sing_ex hs) fun v N' C' g p => ⟨r, a, b1, g.ext _ _ hs, ha, hb1.1, by omega, fin v C' (fun c u hc h => g.ext _ _ (by rw [← hC6, upd_ne hc]; exact (e4.trans e5) _ _ (g3.ext _ _ (e2 _ _ h)))) ⟨_, p, Int.emod_nonneg _ (by omega), Int.emod_lt_of_pos _ hm0⟩⟩
def preChoice (K : PySem.W.Frag) (vs : List V) (N : Hp) (P : MP) : Prop := ∃ r l ds, vs = [.ref r, l] ∧ N r = some (rngO r) ∧ Dp K N l (.list ds) ∧ ds ≠ [] ∧ ds.length ≤ 1000 ∧ P = mR K (· ∈ ds)
theorem ok_choice (F : DF K mg "_law_choice" (top 51)) (B : Bt mg) (c1 : Cl P w K mg base 1 "_law_draw" preDraw) : Cl P w K mg base 2 "_law_choice" (preChoice K) := by
  refine cl_of (N := ["_law_rng_here", "_law_options"]) (ps := ["_law_rng_here", "_law_options"]) F (by decide +kernel) (fun vs M Pm h => ?_) (fun _ _ _ _ _ _ us hl => match us, hl with | [_, _], _ => rfl) fun f cdv A outer s C E vs M Pm D hr eM h rt nx => ?_
  · obtain ⟨r, l, ds, rfl, _⟩ := h; rfl
  obtain ⟨r, l, ds, rfl, hr0, hd, hne, hl, rfl⟩ := h
  have hpos : 0 < ds.length := List.length_pos_iff.mpr hne
  refine r_ret (N := M) (P := mR K (· ∈ ds)) (j_of (pe_ix ix_list pE pE (fun _ _ => rfl)) (ep_op (P1 := mD K (.list ds)) (P2 := mI fun j => 0 ≤ j ∧ j < ds.length) (j_var 1 (P := mD K _) hd) (j_call c1 hr (ja_cons (jv 0) (ja_cons (j_lenL (j_var 1 (P := mD K _) hd) B.len) ja_nil)) fun vs M' g p => ?_) fun x y M' g hx hy => ?_)) eM rt
  · obtain ⟨x, y, rfl, rfl, rfl⟩ := la2 p
    exact ⟨r, _, rfl, g _ _ hr0, by omega, by omega, rfl⟩
  · obtain ⟨b, xs, rfl, s, al⟩ := dp_lst hx
    obtain ⟨j, rfl, hj0, hj1⟩ := hy
    obtain ⟨k, rfl⟩ := Int.eq_ofNat_of_zero_le hj0
    have hk : k < ds.length := by omega
    have hxl := dps_len al
    have hv : xs[k]? = some (xs[k]'(by omega)) := List.getElem?_eq_getElem (by omega)
    obtain ⟨d, h1, h2⟩ := dps_get al hv
    exact rp_rv (rv_ixL s (atI_nat hv)) ⟨d, List.mem_of_getElem? h1, h2⟩
end
end Gs

set_option Elab.async false
set_option linter.all false
set_option maxRecDepth 100000
set_option maxHeartbeats 4000000
/-! GsRng2: the two numbers made of a cell. -/
namespace Gs
open PySem PySem.Spec PyProof.Rows L2 Evl
/-- a new list, its two numbers not told -/
def mRng (N : Hp) : MP := ⟨fun v H => ∃ l, v = .ref l ∧ N l = none ∧ H l = some (rngO l), fun e ⟨l, h1, h2, h3⟩ => ⟨l, h1, h2, e _ _ h3⟩⟩
section
variable {P : Program} {w : World} {K : PySem.W.Frag} {mg : PySem.Str → Option Value} {base : Heap}
def preRng (K : PySem.W.Frag) (vs : List V) (N : Hp) (P : MP) : Prop := ∃ (l : V) (k : Nat) (ns : List Int), vs = [l, .int (k : Int)] ∧ k < 100 ∧ ns.length ≤ 100000 ∧ Dp K N l (.list (ns.map PyData.int)) ∧ mle (mRng N) P
theorem ok_rng (F : DF K mg "_law_rng" (top 49)) (B : Bt mg) : Cl P w K mg base 1 "_law_rng" (preRng K) := by
  refine cl_of (N := ["_law_script", "_law_k", "_law_cell"]) (ps := ["_law_script", "_law_k"]) F (by decide +kernel) (fun vs M Pm h => ?_) (fun _ _ _ _ _ _ us hl => match us, hl with | [_, _], _ => rfl) fun f cdv A outer s C E vs M Pm D hr eM h rt nx => ?_
  · obtain ⟨l, k, ns, rfl, _⟩ := h; rfl
  obtain ⟨l, k, ns, rfl, hk, hn, hd, hP⟩ := h
  have hN : (["_law_script", "_law_k", "_law_cell"] : List PySem.Str).Nodup := by decide
  have hlen : (ns.map PyData.int).length = ns.length := List.length_map _
  refine r_closeV (r_set 2 (N := M) (P := mI (0 ≤ ·)) (j_ife (k := decide ((k : Int) < ns.length)) (jt_cmp op_lt (jv 1) ((j_lenL (j_var 0 (P := mD K _) hd) B.len).is (by rw [hlen])) rv_I0) (fun hb => ?_) fun hb => ?_) eM hN fun v N' C' g p => ?_)
  · have hlt : k < ns.length := by have := of_decide_eq_true hb; omega
    refine j_cb1 call_abs B.abs PyProof.Rows.Boot.«abs» (P := mIs (.int (ns[k]'hlt))) (J.int (j_ixL (j_var 0 (P := mD K _) hd) (jv 1) (atI_nat (x := PyData.int (ns[k]'hlt)) (by rw [List.getElem?_map, List.getElem?_eq_getElem hlt]; rfl)))) fun v M' g p => ?_
    have p' : v = _ := p
    subst p'
    exact fun C0 eC Q q => ⟨_, rfl, q _ _ _ (Gr.refl eC) ⟨_, rfl, by split <;> omega⟩⟩
  · exact J.imp (P := mIs (.int 0)) j_int fun v M' _ p => ⟨0, p, by decide⟩
  · obtain ⟨c, rfl, hc0⟩ := p
    let a : Int := if c - 10 ^ (18 : Int).toNat > 0 then c - 10 ^ (18 : Int).toNat else 0
    let b : Int := (c % 2147483543 + 101 * (k : Int) + 7) ^ (2 : Int).toNat % 2147483497 + 1
    have hb1 : 0 ≤ c % 2147483543 := Int.emod_nonneg _ (by decide)
    have hb2 : c % 2147483543 < 2147483543 := Int.emod_lt_of_pos _ (by decide)
    refine r_ret (N := C') (P := mLX C' [.int a, .int b]) (j_lstX (ev_as ?_ (ev_as ?_ ev_as0)) (by show 2 ≤ 100000; decide)) (Ex.refl C') fun v N2 C2 g2 p2 => ?_
    · refine j_cb (call_max2 rfl) B.max PyProof.Rows.Boot.«max» (ja_cons j_int (ja_cons (j_sub (jv 2) (j_op op_pow j_int j_int (rv_I ⟨by decide, by decide, by decide⟩))) ja_nil)) fun vs M' g p => ?_
      obtain ⟨x, y, rfl, rfl, rfl⟩ := la2 p
      exact fun C0 eC Q q => ⟨_, _, rfl, q _ _ _ (Gr.refl eC) rfl⟩
    · exact j_add (j_mod (j_op op_pow (j_add (j_add (j_mod (jv 2) j_int (by decide)) (j_mul j_int (jv 1) (.inl ⟨by omega, by omega⟩))) j_int) j_int (rv_I ⟨by decide, by decide, by omega⟩)) j_int (by decide)) j_int
    · obtain ⟨p, rfl, q1, q2⟩ := p2
      have e1 := g2.sub _ _ q2
      have hbb : 0 ≤ b ∧ b < 2147483648 := ⟨by have := Int.emod_nonneg ((c % 2147483543 + 101 * (k : Int) + 7) ^ (2 : Int).toNat) (b := 2147483497) (by decide); show 0 ≤ _ % _ + 1; omega, by have := Int.emod_lt_of_pos ((c % 2147483543 + 101 * (k : Int) + 7) ^ (2 : Int).toNat) (b := 2147483497) (by decide); show _ % _ + 1 < _; omega⟩
      have hCp : C p = none := fresh_back g.ext q1
      have gg : Gr M C (upd M p (rngO p)) (upd C2 p (rngO p)) := (Gr.of_ex eM ((g.ext.trans g2.ext).mut hCp)).take upd_same hCp (fresh_back eM hCp)
      exact ⟨p, a, b, e1, by show 0 ≤ ite _ _ _; split <;> omega, hbb.1, hbb.2, rt _ _ _ gg (hP _ _ ⟨p, rfl, fresh_back eM hCp, upd_same⟩)⟩
end
end Gs

set_option Elab.async false
set_option linter.all false
set_option maxRecDepth 100000
set_option maxHeartbeats 4000000
/-! GsShuf: _law_shuffled. -/
namespace Gs
open PySem PySem.Spec PyProof.Rows L2 Evl
theorem map_eraseIdx {α β : Type} (f : α → β) : ∀ (l : List α) (k : Nat), (l.map f).eraseIdx k = (l.eraseIdx k).map f
  | [], _ => rfl
  | _ :: _, 0 => rfl
  | a :: l, k + 1 => congrArg (f a :: ·) (map_eraseIdx f l k)
theorem perm_eraseIdx {α : Type} : ∀ (l : List α) (k : Nat) (h : k < l.length), (l[k] :: l.eraseIdx k).Perm l
  | [], _, h => absurd h (Nat.not_lt_zero _)
  | _ :: _, 0, _ => .refl _
  | a :: l, k + 1, h => (List.Perm.swap a _ _).trans ((perm_eraseIdx l k (Nat.lt_of_succ_lt_succ h)).cons a)
theorem ja_go {X : Cx} {es : List Expr} {σ : L2.St} {N C : Hp} {L : ML} {Q : List V → Hp → Prop} (h : JA X es σ N L) (eN : Ex N C) (k : ∀ vs N' C', Gr N C N' C' → L.p vs N' → Q vs C') : tA X es σ C Q := h C eN _ k
theorem j_go {X : Cx} {e : Expr} {σ : L2.St} {N C : Hp} {P : MP} {Q : VK} (h : J X e σ N P) (eN : Ex N C) (k : ∀ v N' C', Gr N C N' C' → P.p v N' → Q v C') : tE X e σ C Q := h C eN _ k
theorem je_go {X : Cx} {e : Expr} {σ : L2.St} {C : Hp} {v : V} {Q : VK} (h : J X e σ noHp (mIs v)) (k : ∀ C', Ex C C' → Q v C') : tE X e σ C Q := h.ev C no_ex _ k
section
variable {P : Program} {w : World} {K : PySem.W.Frag} {mg : PySem.Str → Option Value} {base : Heap}
def preShuf (K : PySem.W.Frag) (vs : List V) (N : Hp) (P : MP) : Prop := ∃ (r : Addr) (l : V) (ns : List PySem.Str), vs = [.ref r, l] ∧ N r = some (rngO r) ∧ ns.length ≤ 1000 ∧ Dp K N l (.list (strsD ns)) ∧ mle (mNL N K fun es => ∃ ms, es = strsD ms ∧ ms.Perm ns) P
theorem ok_shuffled (F : DF K mg "_law_shuffled" (top 52)) (B : Bt mg) (c1 : Cl P w K mg base 1 "_law_draw" preDraw) : Cl P w K mg base 2 "_law_shuffled" (preShuf K) := by
  refine cl_of (N := ["_law_rng_here", "_law_values", "_law_pool", "_law_k"]) (ps := ["_law_rng_here", "_law_values"]) F (by decide +kernel) (fun vs M Pm h => ?_) (fun _ _ _ _ _ _ us hl => match us, hl with | [_, _], _ => rfl) fun f cdv A outer s C E vs M Pm D hr eM h rt nx => ?_
  · obtain ⟨r, l, ns, rfl, _⟩ := h; rfl
  obtain ⟨r, l, ns, rfl, hr0, hn, hd, hP⟩ := h
  have hN : (["_law_rng_here", "_law_values", "_law_pool", "_law_k"] : List PySem.Str).Nodup := by decide
  refine r_set 2 (N := M) (P := mNL M K (· = strsD ns)) (j_listD (j_var 1 (P := mD K _) hd) (fun v M' g p => ?_) B.list) eM hN fun v1 N1 C1 g1 p1 => ?_
  · obtain ⟨a, xs, rfl, s, al⟩ := dp_lst p
    exact ⟨a, xs, rfl, .inl s, al⟩
  obtain ⟨q, xs, ds0, rfl, hMq, hq1, dx, rfl⟩ := p1
  have hCq : C q = none := dom_new g1 hq1 hMq fun _ z => by cases z
  have hxs : xs = ns.map V.str := dps_strs_inv dx
  subst hxs
  have g1d : Gr M C (L2.del N1 q) C1 := g1.del hMq
  have hq1' : C1 q = some (.lst (ns.map V.str)) := g1.sub _ _ hq1
  refine r_of (ps_ret (pe_lc (own := [("_law_k", 3)]) rfl hN (pi_range1 rfl B.range pA) (blk_by (N := ["_law_rng_here", "_law_values", "_law_pool", "_law_k"]) (sc := defScope (top 52)) (by decide +kernel)) (fun s0 H0 C0 cl fp => pg_name (i := 3) hN rfl (Or.inl rfl)) pTsb pEb (fun x => rfl))) ?_
  refine (ja_cons (j_lenL (j_var 1 (P := mD K _) (dp_mono g1d.up hd)) B.len) ja_nil) C1 g1d.sub _ fun vs N2 C2 g2 p2 => ?_
  obtain ⟨v, rfl, p3⟩ := la1 p2
  have p2' : v = _ := p3
  subst p2'
  have hlen : (strsD ns).length = ns.length := List.length_map _
  refine ⟨_, rfl, by omega, by omega, fun Dd hD => ?_⟩
  rw [hlen]
  have g12 : Gr M C N2 C2 := g1d.trans g2
  have hN2q : N2 q = none := g2.out del_same hq1'
  have hCD : C Dd = none := fresh_back g12.ext hD
  have hq2 : C2 q = some (.lst (ns.map V.str)) := g2.ext _ _ hq1'
  have hne : q ≠ Dd := fun z => by rw [z, hD] at hq2; cases hq2
  have hnt : ((ns.length : Int)).toNat = ns.length := by omega
  rw [hnt]
  refine lc_it (walk_range (lo := 0)) (fun i H => ∃ (Mi : Hp) (ds rs : List PySem.Str), Gr M C Mi H ∧ Mi Dd = none ∧ Mi q = none ∧ H Dd = some (.lst (ds.map V.str)) ∧ H q = some (.lst (rs.map V.str)) ∧ (ds ++ rs).Perm ns ∧ ds.length = i)
    ⟨N2, [], ns, g12.mut hCD (fresh_back g2.sub hD), fresh_back g2.sub hD, hN2q, upd_same, by rw [upd_ne hne]; exact hq2, .refl _, rfl⟩ (fun _ _ _ _ => trivial) (fun i x H H' hi ⟨Mi, ds, rs, gi, hMD, hMiq, hHD, hHq, pm, hl⟩ y => ?_) fun H ⟨Mi, ds, rs, gi, hMD, hMiq, hHD, hHq, pm, hl⟩ => ?_
  · have y' : H' = H ∧ x = .int (0 + (i : Nat)) := y
    obtain ⟨rfl, rfl⟩ := y'
    refine ⟨rfl, evt (fun s0 H0 C0 cl fp => jts_nil) H' (Ex.refl _) _ fun C3 e3 => iteT fun s0 H0 C0 cl fp => ?_⟩
    refine le_E (pe_bm PySem.F.plainAttrs_list PySem.F.slot_list_pop PySem.F.type_list_pop mt_popAt pE (pa_cons pE pa_nil)) ?_
    refine je_go (v := .ref q) (jv 2) fun C4 e4 => ⟨Or.inl ⟨rfl, _, SqL.of ((e3.trans e4) _ _ hHq)⟩, ?_⟩
    have hrs : rs.length = ns.length - i := by have := pm.length_eq; rw [List.length_append] at this; omega
    have e34 := e3.trans e4
    have gq : Gr M C (upd Mi q (.lst (rs.map V.str))) C4 := (gi.grow e34).take (e34 _ _ hHq) hCq hMq
    refine j_go (P := mI fun j => 0 ≤ j ∧ j < rs.length) (N := upd Mi q (.lst (rs.map V.str))) ?_ gq.sub fun v N5 C5 g5 p5 => ?_
    · refine j_call c1 (by exact hr) (ja_cons (jv 0) (ja_cons (j_lenL (j_var 2 (P := mD K (.list (strsD rs))) (Dp.lst (SqL.of upd_same) (dps_strs rs))) B.len) ja_nil)) fun vs M' g p => ?_
      obtain ⟨x, y, rfl, rfl, rfl⟩ := la2 p
      have : (strsD rs).length = rs.length := List.length_map _
      exact ⟨r, _, rfl, g _ _ (gq.up _ _ hr0), by omega, by omega, by rw [this]⟩
    obtain ⟨j, rfl, hj0, hj1⟩ := p5
    obtain ⟨k, rfl⟩ := Int.eq_ofNat_of_zero_le hj0
    have hk : k < rs.length := by omega
    have h5q : C5 q = some (.lst (rs.map V.str)) := g5.ext _ _ (e34 _ _ hHq)
    refine ⟨q, rs.map V.str, k, k, .str (rs[k]'hk), rfl, rfl, h5q, by omega, by omega, by rw [seqIndex_of (by omega) (by rw [List.length_map]; exact hj1)]; rfl, by rw [List.getElem?_map, List.getElem?_eq_getElem hk]; rfl, ?_⟩
    have gg : Gr M C (L2.del N5 q) C5 := (gq.trans g5).del hMq
    have h5D : N5 Dd = none := g5.out (by rw [upd_ne (Ne.symm hne)]; exact hMD) (e34 _ _ hHD)
    have hdD : (L2.del N5 q) Dd = none := by rw [del_ne (Ne.symm hne)]; exact h5D
    refine ⟨ds.map V.str, by rw [upd_ne (Ne.symm hne)]; exact g5.ext _ _ (e34 _ _ hHD), sz_lt (by rw [List.length_map]; omega), L2.del N5 q, ds ++ [rs[k]'hk], rs.eraseIdx k, (gg.mut hCq del_same).mut hCD hdD, hdD, del_same, by rw [upd_same, List.map_append]; rfl, by rw [upd_ne hne, upd_same, map_eraseIdx], ?_, by rw [List.length_append, hl]; rfl⟩
    rw [List.append_assoc]
    exact (List.Perm.append_left ds (perm_eraseIdx rs k hk)).trans pm
  · have hz : rs = [] := by
      have := pm.length_eq
      rw [List.length_append] at this
      exact List.eq_nil_of_length_eq_zero (by omega)
    subst hz
    rw [List.append_nil] at pm
    exact rt (.ref Dd) _ H (gi.take hHD hCD (fresh_back eM hCD)) (hP _ _ ⟨Dd, ds.map V.str, strsD ds, rfl, fresh_back eM hCD, upd_same, dps_strs ds, ds, rfl, pm⟩)
end
end Gs

set_option Elab.async false
set_option linter.all false
set_option maxRecDepth 100000
set_option maxHeartbeats 4000000
/-! GsName: _law_name. -/
namespace Gs
open PySem PySem.Spec PyProof.Rows L2 Evl
/-! ### letters -/
def LetOk (z : PySem.Str) : Prop := ∀ c ∈ z.cps.toList, c ∈ letters.cps.toList
theorem letOk_app {a b : PySem.Str} (ha : LetOk a) (hb : LetOk b) : LetOk (a ++ b) := fun c h => by
  rw [Str.cps_append, Array.toList_append] at h
  rcases List.mem_append.mp h with h | h
  · exact ha c h
  · exact hb c h
theorem letOk_cut {z : PySem.Str} (h : LetOk z) (lo hi : Option Int) : LetOk (cutS z lo hi) := fun c hc => by
  have hc' : c ∈ ((z.cps.toList.drop (HT.sIx z.length 0 lo)).take (HT.sIx z.length z.length hi - HT.sIx z.length 0 lo)) := by
    unfold cutS at hc
    exact (List.toList_toArray (as := (z.cps.toList.drop (HT.sIx z.length 0 lo)).take (HT.sIx z.length z.length hi - HT.sIx z.length 0 lo))) ▸ hc
  exact h c (List.mem_of_mem_drop (List.mem_of_mem_take hc'))
theorem letOk_nil : LetOk ("" : PySem.Str) := fun c h => by
  have : ("" : PySem.Str).cps.toList = [] := by decide +kernel
  rw [this] at h
  cases h
theorem join_let : ∀ ys : List PySem.Str, (∀ y ∈ ys, LetOk y ∧ y.length = 1) → LetOk (Txt.join "" ys) ∧ (Txt.join "" ys).length = ys.length := by
  have hz : ("" : PySem.Str) = Str.empty := by decide +kernel
  have key : ∀ ys : List PySem.Str, (∀ y ∈ ys, LetOk y ∧ y.length = 1) → LetOk (Str.join "" ys) ∧ (Str.join "" ys).length = ys.length := by
    intro ys
    induction ys with
    | nil => intro _; exact ⟨by show LetOk Str.empty; rw [← hz]; exact letOk_nil, rfl⟩
    | cons y r ih =>
      intro h
      cases r with
      | nil => exact h y (List.mem_cons_self ..)
      | cons x r =>
        obtain ⟨h1, h2⟩ := h y (List.mem_cons_self ..)
        obtain ⟨h3, h4⟩ := ih fun y hy => h y (List.mem_cons_of_mem _ hy)
        show LetOk (y ++ "" ++ Str.join "" (x :: r)) ∧ (y ++ "" ++ Str.join "" (x :: r)).length = _
        rw [hz, Str.append_empty, ← hz]
        refine ⟨letOk_app h1 h3, ?_⟩
        rw [Str.length_append, h2, h4, List.length_cons (a := y)]
        omega
  intro ys h
  have e : Txt.join "" ys = Str.join "" ys := StrLaws.glued_eq_join _ _
  rw [e]
  exact key ys h
def let1 (i : Nat) : PySem.Str := ⟨#[letters.cps.toList.getD i 0]⟩
theorem let1_ok {i : Nat} (h : i < 26) : LetOk (let1 i) := fun c hc => by
  have hl : letters.cps.toList.length = 26 := by decide +kernel
  have : c = letters.cps.toList.getD i 0 := by simpa [let1] using hc
  rw [this, List.getD_eq_getElem?_getD, List.getElem?_eq_getElem (by omega)]
  exact List.getElem_mem _
/-! ### one of a list -/
def lAll (K : PySem.W.Frag) (A : PyData → Prop) (n : Nat) : ML := ⟨fun vs H => ∃ ds, DpAll K H vs ds ∧ ds.length = n ∧ ∀ d ∈ ds, A d, fun e ⟨ds, h1, h2, h3⟩ => ⟨ds, dps_mono e h1, h2, h3⟩⟩
/-- a list of n such -/
def lsR (A : PyData → Prop) (n : Nat) : PyData → Prop := fun d => ∃ ds, d = .list ds ∧ ds.length = n ∧ ∀ d ∈ ds, A d
section
variable {X : Cx} {a b e c : Expr} {es : List Expr} {body els st rest : List Stmt} {σ : L2.St} {N C : Hp} {P : MP} {D : Ends} {pos p p2 q2 : Pos} {K : PySem.W.Frag} {A : PyData → Prop} {n j : Nat} {r : Addr} {m : Int}
theorem ja_nilA : JA X [] σ N (lAll K A 0) := ja_of pa_nil fun C e Q q => q [] N C (Gr.refl e) ⟨[], .nil, rfl, fun _ h => nomatch h⟩
theorem ja_consA (h : J X e σ N (mR K A)) (hr : JA X es σ N (lAll K A n)) (hs : starEach (e :: es) X.env = (false, eval e X.env) :: starEach es X.env := by rfl) : JA X (e :: es) σ N (lAll K A (n + 1)) :=
  ja_of (pa_cons pE pA hs) fun C eC Q q => h C eC _ fun x N1 C1 g1 p1 => hr.up g1.up C1 g1.sub _ fun vs N2 C2 g2 ⟨ds, h1, h2, h3⟩ => by
    obtain ⟨d, hd, hx⟩ := p1
    refine q (x :: vs) N2 C2 (g1.trans g2) ⟨d :: ds, .cons (dp_mono g2.up hx) h1, by rw [List.length_cons, h2], fun y hy => ?_⟩
    rcases List.mem_cons.mp hy with e | hy
    · subst e; exact hd
    · exact h3 y hy
theorem j_lstA (h : JA X es σ N (lAll K A n)) (hn : n ≤ 100000 := by decide) : J X (.List es pos) σ N (mR K (lsR A n)) := j_of (pe_lst pA) fun C e Q q =>
  h C e _ fun vs N1 C1 g1 ⟨ds, p1, h2, h3⟩ => ⟨sz_of (by rw [dps_len p1, h2]; exact hn), fun p hp => q (.ref p) (upd N1 p (.lst vs)) _ (g1.new hp) ⟨.list ds, ⟨ds, rfl, h2, h3⟩, Dp.lst (SqL.of upd_same) (dps_mono (Ex.new (fresh_back g1.sub hp)) p1)⟩⟩
theorem j_pick (ha : J X a σ N (mR X.K (lsR A n))) (hb : J X b σ N (mI fun j => 0 ≤ j ∧ j < n)) (hs : PlainIx b := by exact fun _ _ => rfl) : J X (.Subscript a b pos) σ N (mR X.K A) :=
  j_of (pe_ix ix_list pE pE hs) (ep_op ha hb fun x y M' g hx hy => by
    obtain ⟨d, ⟨ds, rfl, rfl, hA⟩, hx⟩ := hx
    obtain ⟨b, xs, rfl, s, al⟩ := dp_lst hx
    obtain ⟨j, rfl, hj0, hj1⟩ := hy
    obtain ⟨k, rfl⟩ := Int.eq_ofNat_of_zero_le hj0
    have hk : k < ds.length := by omega
    have hxl := dps_len al
    have hv : xs[k]? = some (xs[k]'(by omega)) := List.getElem?_eq_getElem (by omega)
    obtain ⟨d, h1, h2⟩ := dps_get al hv
    exact rp_rv (rv_ixL s (atI_nat hv)) ⟨d, hA _ (List.mem_of_getElem? h1), h2⟩)
theorem j_draw (c1 : Cl X.prog X.w X.K X.mg X.base 1 "_law_draw" preDraw) (hr : Room j X.A) (ha : J X a σ N (mIs (.ref r))) (he : J X e σ N (mIs (.int m))) (hr0 : N r = some (rngO r)) (hm0 : 0 < m) (hm1 : m < 2 ^ 30) (hk : 1 ≤ j := by decide) (hg : Gl X "_law_draw" := by rfl)
    (hs1 : starEach [a, e] X.env = (false, eval a X.env) :: starEach [e] X.env := by rfl) (hs2 : starEach [e] X.env = (false, eval e X.env) :: starEach [] X.env := by rfl) (hpl : (backTo pos (starEach [e] X.env)).any (·.1) = false := by rfl) : J X (.Call (.Name "_law_draw" p) [a, e] [] pos) σ N (mI fun j => 0 ≤ j ∧ j < m) :=
  j_call c1 hr (ja_cons ha (ja_cons he ja_nil hs2) hs1) (fun vs M' g p => by
    obtain ⟨x, y, rfl, rfl, rfl⟩ := la2 p
    exact ⟨r, m, rfl, g _ _ hr0, hm0, hm1, rfl⟩) hk hg (he := hs1) (hpl := hpl)
theorem r_nx {S : L2.St → Hp → Prop} (k : ∀ σ C, S σ C → D.nx σ C) (h : tR X st { D with nx := S } σ C) : tR X st D σ C := fun pins s I => thn (h pins s I) fun f s' q => by
  cases f with
  | next => obtain ⟨σ', H', J, z⟩ := q; exact ⟨σ', H', J, k _ _ z⟩
  | brk => exact q
  | cont => exact q
  | ret u => exact q
theorem r_ifM {A : Bool → Prop} (S : L2.St → Hp → Prop) (hc : EvB (tT X c) σ N A) (eN : Ex N C) (h1 : A true → ∀ C', Ex C C' → tR X body { D with nx := S } σ C') (h2 : A false → ∀ C', Ex C C' → tR X els { D with nx := S } σ C') (hS : ∀ σ C, S σ C → tR X rest D σ C) : tR X (.If c body els pos :: rest) D σ C :=
  r_ifB hc eN (fun hA C' e => r_nx (D := { D with nx := tR X rest D }) hS (h1 hA C' e)) fun hA C' e => r_nx (D := { D with nx := tR X rest D }) hS (h2 hA C' e)
theorem j_isR {v : V} {d : PyData} (h : J X e σ N (mIs v)) (hd : Dp K noHp v d) (hA : A d) : J X e σ N (mR K A) := J.imp h fun y M g p => by
  have p' : y = v := p
  subst p'
  exact ⟨d, hA, dp_mono no_ex hd⟩
/-- a letter of a text -/
theorem j_ixS {z : PySem.Str} {i : Int} {ch : Nat} (ha : J X a σ N (mIs (.str z))) (hb : J X b σ N (mIs (.int i))) (hz : z.length ≤ 100000) (hi : atI z.cps.toList i = some ch) (hs : PlainIx b := by exact fun _ _ => rfl) : J X (.Subscript a b pos) σ N (mIs (.str ⟨#[ch]⟩)) :=
  j_ev (pe_ix ix_str pE pE hs) (ev_op ha.ev hb.ev (rv_val fun H1 e Q q => ⟨z, i, ch, rfl, rfl, sz_of hz, hi, q⟩))
theorem j_addS {x y : PySem.Str} (ha : J X a σ N (mIs (.str x))) (hb : J X b σ N (mIs (.str y))) (hz : x.length + y.length ≤ 100000) : J X (.BinOp a .Add b pos) σ N (mIs (.str (x ++ y))) :=
  j_op op_add_str ha hb (rv_val fun H1 e Q q => ⟨x, y, rfl, rfl, sz_of hz, q⟩)
theorem j_cutTo {z : PySem.Str} {i : Int} (ha : J X a σ N (mIs (.str z))) (hb : J X b σ N (mIs (.int i))) (hz : z.length ≤ 100000) : J X (.Subscript a (.Slice none (some b) none p2) pos) σ N (mIs (.str (cutS z none (some i)))) :=
  j_of (pe_slice sl_str pE po_none (po_some pE)) fun C eC Q q => ha.ev C eC _ fun C1 e1 => hb.ev C1 (eC.trans e1) _ fun C2 e2 => ⟨i, rfl, z, rfl, sz_of hz, q _ N C2 (Gr.of_ex eC (e1.trans e2)) rfl⟩
end
end Gs

set_option Elab.async false
set_option linter.all false
set_option maxRecDepth 100000
set_option maxHeartbeats 4000000
/-! GsName2: _law_name, _law_names. -/
namespace Gs
open PySem PySem.Spec PyProof.Rows L2 Evl
/-! ### a word that is not used -/
def wrd (z : PySem.Str) (k : Nat) : PySem.Str := cutS z none (some 6) ++ let1 (k / 26) ++ let1 (k % 26)
def wrds (z : PySem.Str) : List PySem.Str := (List.range 676).map (wrd z)
theorem cut6 (z : PySem.Str) : (cutS z none (some 6)).length ≤ 6 := by
  show (((z.cps.toList.drop (HT.sIx z.length 0 none)).take (HT.sIx z.length z.length (some 6) - HT.sIx z.length 0 none)).toArray).size ≤ 6
  have h : HT.sIx z.length z.length (some ((6 : Nat) : Int)) = min 6 z.length := HT.sIx_nat _ _ _
  have h' : HT.sIx z.length z.length (some 6) = min 6 z.length := h
  rw [List.size_toArray, List.length_take, HT.sIx_none, h']
  omega
theorem wrd_ok {z : PySem.Str} (h : LetOk z) {k : Nat} (hk : k < 676) : NameOk (wrd z k) := by
  have l1 : (let1 (k / 26)).length = 1 := rfl
  have l2 : (let1 (k % 26)).length = 1 := rfl
  have hl : (wrd z k).length = (cutS z none (some 6)).length + 1 + 1 := by
    unfold wrd
    rw [Str.length_append, Str.length_append, l1, l2]
  have h6 := cut6 z
  exact ⟨by omega, by omega, letOk_app (letOk_app (letOk_cut h _ _) (let1_ok (by omega))) (let1_ok (Nat.mod_lt _ (by decide)))⟩
theorem wrd_inj {z : PySem.Str} {i j : Nat} (hi : i < 3) (hj : j < 3) (h : wrd z i = wrd z j) : i = j := by
  have d1 : i / 26 = j / 26 := by omega
  have d2 : i % 26 = i := Nat.mod_eq_of_lt (by omega)
  have d3 : j % 26 = j := Nat.mod_eq_of_lt (by omega)
  unfold wrd at h
  rw [d1, d2, d3] at h
  have h1 : (let1 i).cps.toList = (let1 j).cps.toList := by
    have := congrArg (fun s : PySem.Str => s.cps.toList) h
    simp only [Str.cps_append, Array.toList_append] at this
    exact List.append_cancel_left this
  have key : ∀ i, i < 3 → ∀ j, j < 3 → (let1 i).cps.toList = (let1 j).cps.toList → i = j := by decide +kernel
  exact key i hi j hj h1
theorem fresh_word (z : PySem.Str) {us : List PySem.Str} (hu : us.length ≤ 2) : (wrds z).filter (fun x => !decide (x ∈ us)) ≠ [] := fun e => by
  have all : ∀ i, i < 3 → wrd z i ∈ us := fun i hi => by
    have hm : wrd z i ∈ wrds z := List.mem_map.mpr ⟨i, List.mem_range.mpr (by omega), rfl⟩
    have := List.filter_eq_nil_iff.mp e _ hm
    simpa using this
  have h0 := all 0 (by decide)
  have h1 := all 1 (by decide)
  have h2 := all 2 (by decide)
  have n01 : wrd z 0 ≠ wrd z 1 := fun e => by have := wrd_inj (by decide) (by decide) e; omega
  have n02 : wrd z 0 ≠ wrd z 2 := fun e => by have := wrd_inj (by decide) (by decide) e; omega
  have n12 : wrd z 1 ≠ wrd z 2 := fun e => by have := wrd_inj (by decide) (by decide) e; omega
  match us, hu with
  | [], _ => cases h0
  | [a], _ =>
    rw [List.mem_singleton] at h0 h1
    exact n01 (h0.trans h1.symm)
  | [a, b], _ =>
    simp only [List.mem_cons, List.not_mem_nil, or_false] at h0 h1 h2
    rcases h0 with h0 | h0 <;> rcases h1 with h1 | h1 <;> rcases h2 with h2 | h2 <;> simp_all
theorem at_head {l : List PySem.Str} (h : l ≠ []) : atI (l.map PyData.str) 0 = some (PyData.str (l.head h)) := by
  cases l with
  | nil => exact absurd rfl h
  | cons a l => exact atI0
theorem ji_listE {X : Cx} {e : Expr} {σ : L2.St} {N : Hp} {K : PySem.W.Frag} {ds : List PyData} {n : Nat} (hn : ds.length = n) (h : J X e σ N (mD K (.list ds))) : JI (iList K (tE X e)) σ N n fun j => mR K fun d => ds[j]? = some d := by
  subst hn
  exact ji_list h
section
variable {P : Program} {w : World} {K : PySem.W.Frag} {mg : PySem.Str → Option Value} {base : Heap}
def preNm (K : PySem.W.Frag) (vs : List V) (N : Hp) (P : MP) : Prop := ∃ (r : Addr) (l : V) (us : List PySem.Str), vs = [.ref r, l] ∧ N r = some (rngO r) ∧ us.length ≤ 2 ∧ Dp K N l (.list (strsD us)) ∧ mle (mS fun z => NameOk z ∧ z ∉ us) P
theorem ok_name (F : DF K mg "_law_name" (top 53)) (B : Bt mg) (c1 : Cl P w K mg base 1 "_law_draw" preDraw) : Cl P w K mg base 2 "_law_name" (preNm K) := by
  refine cl_of (N := ["_law_rng_here", "_law_used", "_law_letters", "_law_length", "_law_name_here", "_law_k", "_law_word"]) (ps := ["_law_rng_here", "_law_used"]) F (by decide +kernel) (fun vs M Pm h => ?_) (fun _ _ _ _ _ _ us hl => match us, hl with | [_, _], _ => rfl) fun f cdv A outer s C E vs M Pm D hr eM h rt nx => ?_
  · obtain ⟨r, l, us, rfl, _⟩ := h; rfl
  obtain ⟨r, l, us, rfl, hr0, hu, hd, hP⟩ := h
  have hN : (["_law_rng_here", "_law_used", "_law_letters", "_law_length", "_law_name_here", "_law_k", "_law_word"] : List PySem.Str).Nodup := by decide
  have hll : letters.length = 26 := by decide +kernel
  have hl26 : letters.cps.toList.length = 26 := by decide +kernel
  have at26 : ∀ i : Nat, i < 26 → atI letters.cps.toList (i : Int) = some (letters.cps.toList.getD i 0) := fun i hi => atI_nat (by rw [List.getD_eq_getElem?_getD, List.getElem?_eq_getElem (by omega)] <;> rfl)
  refine r_set 2 (N := M) (P := mIs (.str letters)) j_str eM hN fun v1 N1 C1 g1 p1 => ?_
  have p1' : v1 = V.str letters := p1
  subst p1'
  refine r_set 3 (N := N1) (P := mR K fun d => ∃ n : Nat, d = .int n ∧ 1 ≤ n ∧ n ≤ 8) (j_pick (j_lstA (ja_consA (j_isR j_int (.int 1) ⟨1, rfl, by decide, by decide⟩) (ja_consA (j_isR j_int (.int 1) ⟨1, rfl, by decide, by decide⟩) (ja_consA (j_isR j_int (.int 2) ⟨2, rfl, by decide, by decide⟩) (ja_consA (j_opP op_add j_int (j_draw c1 hr (jv 0) j_int (g1.up _ _ hr0) (by decide) (by decide)) fun x y M' g hx hy => ?_) ja_nilA))))) (j_draw c1 hr (jv 0) j_int (g1.up _ _ hr0) (by decide) (by decide))) g1.sub hN fun v2 N2 C2 g2 p2 => ?_
  · obtain ⟨j, rfl, h0, h8⟩ := hy
    have hx' : x = V.int 1 := hx
    subst hx'
    obtain ⟨k, rfl⟩ := Int.eq_ofNat_of_zero_le h0
    exact rp_rv rv_I0 ⟨.int ((1 + k : Nat) : Int), ⟨1 + k, rfl, by omega, by omega⟩, by rw [Int.natCast_add]; exact .int _⟩
  obtain ⟨d, ⟨n, rfl, n1, n8⟩, p2⟩ := p2
  obtain rfl := dp_int p2
  have g12 := g1.trans g2
  refine r_set 4 (N := N2) (P := mS NameOk) (j_of (pe_join pE pE) fun C0 eC Q q => ?_) g12.sub hN fun v3 N3 C3 g3 p3 => ?_
  · refine je_go (v := .str "") j_str fun C1' e1 => ⟨⟨_, rfl⟩, ?_⟩
    refine j_go (N := N2) (P := mNL N2 K (F2 (fun (_ : Nat) d => ∃ y, d = PyData.str y ∧ LetOk y ∧ y.length = 1) ((List.range n).filter fun _ => true))) (j_lc (own := [("_law_k", 5)]) (fun _ d => ∃ y, d = PyData.str y ∧ LetOk y ∧ y.length = 1) (fun _ => true) 5 rfl hN (pi_range1 rfl B.range pA) (ji_range (n := n) (ja_cons (jv 3) ja_nil) rfl (by omega)) (by omega) (blk_by (N := ["_law_rng_here", "_law_used", "_law_letters", "_law_length", "_law_name_here", "_law_k", "_law_word"]) (sc := defScope (top 53)) (by decide +kernel)) (fun s0 H0 C0 cl fp => pg_name hN rfl (Or.inl rfl)) (fun x => rfl) fun i x M2 hi eM2 hx => ⟨fun s0 H0 C0 cl fp => jts_nil, fun _ s0 H0 C0 cl fp => ?_⟩) (eC.trans e1) fun v N' C' g p => ?_
    · refine j_of (pe_ix ix_str pE pE (fun _ _ => rfl)) (ep_op (P1 := mIs (.str letters)) (P2 := mI fun j => 0 ≤ j ∧ j < 26) (jv 2) (j_draw c1 (by exact hr) (jv 0) j_int (eM2 _ _ (g12.up _ _ hr0)) (by decide) (by decide)) fun x y M' g hx hy => ?_)
      have hx' : x = V.str letters := hx
      subst hx'
      obtain ⟨j, rfl, h0, h26⟩ := hy
      obtain ⟨k, rfl⟩ := Int.eq_ofNat_of_zero_le h0
      exact rp_rv (rv_val fun H1 e Q q => ⟨letters, _, _, rfl, rfl, sz_of (by omega), at26 k (by omega), q⟩) ⟨.str (let1 k), ⟨let1 k, rfl, let1_ok (by omega), rfl⟩, .str _⟩
    · obtain ⟨a, xs, ds, rfl, h1, h2, h3, h4⟩ := p
      have hys : ∃ ys : List PySem.Str, ds = strsD ys ∧ ∀ y ∈ ys, LetOk y ∧ y.length = 1 := by
        have hall := h4.all (R := fun d => ∃ y, d = PyData.str y ∧ LetOk y ∧ y.length = 1) fun _ _ _ h => h
        clear h3 h4
        induction ds with
        | nil => exact ⟨[], rfl, fun _ h => nomatch h⟩
        | cons d r ih =>
          obtain ⟨y, rfl, hy⟩ := hall d (List.mem_cons_self ..)
          obtain ⟨ys, rfl, hys⟩ := ih fun d hd => hall d (List.mem_cons_of_mem _ hd)
          exact ⟨y :: ys, rfl, fun z hz => by
            rcases List.mem_cons.mp hz with e | hz
            · rw [e]; exact hy
            · exact hys z hz⟩
      obtain ⟨ys, rfl, hys⟩ := hys
      obtain rfl := dps_strs_inv h3
      have hlen : ys.length = n := by
        have := h4.len
        rw [show (strsD ys).length = ys.length from List.length_map _, List.filter_eq_self.mpr (fun _ _ => rfl), List.length_range] at this
        exact this
      obtain ⟨j1, j2⟩ := join_let ys hys
      have hsum : (ys.map (·.length)).sum + ys.length * ("" : PySem.Str).length ≤ 16777216 := by
        have h0 : ("" : PySem.Str).length = 0 := by decide +kernel
        have : ∀ l : List PySem.Str, (∀ y ∈ l, LetOk y ∧ y.length = 1) → (l.map (·.length)).sum = l.length := by
          intro l
          induction l with
          | nil => intro _; rfl
          | cons y r ih =>
            intro h
            rw [List.map_cons, List.sum_cons, (h y (List.mem_cons_self ..)).2, ih fun y hy => h y (List.mem_cons_of_mem _ hy), List.length_cons]
            omega
        rw [this ys hys, h0]
        omega
      exact ⟨"", a, ys, rfl, rfl, .inl (SqL.of (g.sub _ _ h2)), hsum, q _ N' C' ((Gr.of_ex eC e1).trans g) ⟨_, rfl, by omega, by omega, j1⟩⟩
  obtain ⟨z, rfl, hz⟩ := p3
  have g123 := g12.trans g3
  refine r_ifM (N := N3) (A := fun _ => True) (S := fun σ C' => ∃ (z : PySem.Str) (N' : Hp), σ = [some (.ref r), some l, some (.str letters), some (.int n), some (.str z), none, none] ∧ NameOk z ∧ Gr M C N' C') (jb_cmpP op_eq (j_draw c1 hr (jv 0) j_int (g123.up _ _ hr0) (by decide) (by decide)) j_int fun x y M' g hx hy => ?_) g123.sub (fun _ C4 e4 => ?_) (fun _ C4 e4 => r_nil ⟨z, N3, rfl, hz, g123.grow e4⟩) fun σ4 C4 ⟨z, N4, hσ, hz, g4⟩ => ?_
  · obtain ⟨j, rfl, h0, h9⟩ := hx
    have hy' : y = V.int 0 := hy
    subst hy'
    exact rp_rv (rv_val fun H1 e Q q => ⟨rfl, q⟩) ⟨_, rfl, trivial⟩
  · have nk : ∀ z : PySem.Str, NameOk z → NameOk z := fun _ h => h
    refine r_set 4 (N := N3) (P := mR K fun d => ∃ z, d = .str z ∧ NameOk z) (j_pick (n := 8) (j_lstA (ja_consA (j_isR j_str (.str _) ⟨_, rfl, ?_⟩) (ja_consA (j_isR j_str (.str _) ⟨_, rfl, ?_⟩) (ja_consA (j_isR j_str (.str _) ⟨_, rfl, ?_⟩) (ja_consA (j_isR j_str (.str _) ⟨_, rfl, ?_⟩) (ja_consA (j_isR j_str (.str _) ⟨_, rfl, ?_⟩) (ja_consA (j_isR j_str (.str _) ⟨_, rfl, ?_⟩) (ja_consA (j_isR j_str (.str _) ⟨_, rfl, ?_⟩) (ja_consA (j_isR j_str (.str _) ⟨_, rfl, ?_⟩) ja_nilA))))))))) (j_draw c1 hr (jv 0) j_int (g123.up _ _ hr0) (by decide) (by decide))) (g123.sub.trans e4) hN fun v5 N5 C5 g5 p5 => ?_
    iterate 8 (unfold NameOk; decide +kernel)
    obtain ⟨d, ⟨z2, rfl, hz2⟩, p5⟩ := p5
    obtain rfl := dp_str p5
    exact r_nil ⟨z2, N5, rfl, hz2, (g123.grow e4).trans g5⟩
  · subst hσ
    have hd4 : Dp K N4 l (.list (strsD us)) := dp_mono g4.up hd
    refine r_if (N := N4) (jt_niN (jv 4) (j_var 1 (P := mD K _) hd4) fun y M' g p => .inr p) g4.sub (fun h C5 e5 => ?_) fun h C5 e5 => r_nil ?_
    · refine r_ret (N := N4) (jv 4) (g4.sub.trans e5) fun v N' C' g p => rt v N' C' ((g4.grow e5).trans g) (hP _ _ ⟨z, p, hz, by simpa using h⟩)
    · have hws : (strsD (wrds z)).length = (wrds z).length := List.length_map _
      have hw6 : (wrds z).length = 676 := by unfold wrds; rw [List.length_map, List.length_range]
      have hne := fresh_word z hu
      refine r_ret (N := N4) (P := mD K (.str (((wrds z).filter fun x => !decide (x ∈ us)).head hne))) (j_ixL (ds := ((wrds z).filter fun x => !decide (x ∈ us)).map PyData.str) (J.imp (P := mNL N4 K (F2 (fun k d => d = PyData.str ((wrds z).getD k "")) ((List.range 676).filter fun k => !decide ((wrds z).getD k "" ∈ us)))) ?_ fun v M' g p => mNL_D p fun es h => by
        rw [F2.map h, ← hw6]
        exact filter_places (fun x : PySem.Str => !decide (x ∈ us)) (fun x => PyData.str x) (wrds z) "") j_int ?_) (g4.sub.trans e5) fun v N' C' g p => ?_
      · refine j_lc (own := [("_law_word", 6)]) (n := 676) (I := fun j => mR K fun d => (strsD (wrds z))[j]? = some d) (fun k d => d = PyData.str ((wrds z).getD k "")) (fun k => !decide ((wrds z).getD k "" ∈ us)) 6 rfl hN (pi_list pE) ?_ (by decide) (blk_by (N := ["_law_rng_here", "_law_used", "_law_letters", "_law_length", "_law_name_here", "_law_k", "_law_word"]) (sc := defScope (top 53)) (by decide +kernel)) (fun s0 H0 C0 cl fp => pg_name hN rfl (Or.inl rfl)) (fun x => rfl) fun i x M2 hi eM2 hx => ?_
        · refine ji_listE (hws.trans hw6) (J.imp (P := mNL N4 K (F2 (fun k d => d = PyData.str (wrd z k)) ((List.range 676).filter fun _ => true))) ?_ fun v M' g p => mNL_D p fun es h => ?_)
          · refine j_lc (K := K) (own := [("_law_k", 5)]) (fun k d => d = PyData.str (wrd z k)) (fun _ => true) 5 rfl hN (pi_range1 rfl B.range pA) (ji_range (n := 676) (ja_cons j_int ja_nil) rfl (by decide)) (by decide) (blk_by (N := ["_law_rng_here", "_law_used", "_law_letters", "_law_length", "_law_name_here", "_law_k", "_law_word"]) (sc := defScope (top 53)) (by decide +kernel)) (fun s0 H0 C0 cl fp => pg_name hN rfl (Or.inl rfl)) (fun x => rfl) fun i x M2 hi eM2 hx => ⟨fun s0 H0 C0 cl fp => jts_nil, fun _ s0 H0 C0 cl fp => ?_⟩
            have hx' : x = V.int (i : Nat) := hx
            subst hx'
            have hz8 : z.length ≤ 8 := hz.2.1
            have h6 := cut6 z
            have l1 : (let1 (i / 26)).length = 1 := rfl
            have l2 : (let1 (i % 26)).length = 1 := rfl
            refine (j_addS (x := cutS z none (some 6) ++ let1 (i / 26)) (y := let1 (i % 26)) (j_addS (x := cutS z none (some 6)) (y := let1 (i / 26)) (j_cutTo (jv 4) j_int (by omega)) (j_ixS (jv 2) ((j_fdiv (jv 5) j_int ⟨by decide, by decide⟩).is (w := .int ((i / 26 : Nat) : Int)) rfl) (by omega) (at26 _ (by omega))) (by omega)) (j_ixS (jv 2) ((j_mod (jv 5) j_int (by decide)).is (w := .int ((i % 26 : Nat) : Int)) rfl) (by omega) (at26 _ (Nat.mod_lt _ (by decide)))) (by rw [Str.length_append]; omega)).imp fun y M3 g p => ?_
            have p' : y = _ := p
            subst p'
            exact ⟨_, rfl, .str _⟩
          · rw [F2.map h, List.filter_eq_self.mpr (fun _ _ => rfl)]
            unfold strsD wrds
            rw [List.map_map]
            rfl
        · obtain ⟨d, h1, h2⟩ := hx
          have hi' : i < (wrds z).length := by omega
          have e : (wrds z).getD i "" = (wrds z)[i] := by rw [List.getD_eq_getElem?_getD, List.getElem?_eq_getElem hi'] <;> rfl
          have hd' : d = .str (wrds z)[i] := by
            unfold strsD at h1
            rw [List.getElem?_map, List.getElem?_eq_getElem hi'] at h1
            exact (Option.some.inj h1).symm
          subst hd'
          obtain rfl := dp_str h2
          rw [e]
          exact ⟨fun s0 H0 C0 cl fp => jts_one (jt_niN (jv 6) (j_var 1 (P := mD K _) (dp_mono eM2 hd4)) fun y M' g p => .inr p), fun _ s0 H0 C0 cl fp => (jv 6).imp fun y M3 g p => ⟨_, rfl, by
            have p' : y = V.str (wrds z)[i] := p
            subst p'
            exact .str _⟩⟩
      · exact at_head hne
      · obtain rfl := dp_str p
        have hm := List.head_mem hne
        obtain ⟨h1, h2⟩ := List.mem_filter.mp hm
        obtain ⟨k, hk, e⟩ := List.mem_map.mp h1
        refine rt _ N' C' ((g4.grow e5).trans g) (hP _ _ ⟨_, rfl, ?_, by simpa using h2⟩)
        rw [← e]
        exact wrd_ok hz.2.2 (List.mem_range.mp hk)
end
end Gs

set_option Elab.async false
set_option linter.all false
set_option maxRecDepth 100000
set_option maxHeartbeats 4000000
/-! GsName3: _law_names. -/
namespace Gs
open PySem PySem.Spec PyProof.Rows L2 Evl
section
variable {X : Cx} {e o : Expr} {rest : List Stmt} {σ : L2.St} {N C : Hp} {P : MP} {D : Ends} {pos apos cpos : Pos} {l : Addr} {xs : List V}
/-- o.append(e), e reads the list, too -/
theorem r_appL (ho : J X o σ N (mIs (.ref l))) (he : J X e σ N P) (eN : Ex N C) (hN : N l = some (.lst xs)) (hz : xs.length < 100000) (k : ∀ v N' C', Gr N C N' C' → P.p v N' → tR X rest D σ (upd C' l (.lst (xs ++ [v]))))
    (hs : swapsWith (.Call (.Attribute o "append" apos) [e] [] cpos) none pos.line X.env = pure false := by rfl)
    (hbase : attributeBase o "append" X.env (eval o X.env) = eval o X.env := by rfl)
    (hfew : ((backTo cpos (starEach [e] X.env)).all (fun x => !x.1) && (backToKw cpos (keywordEach [] X.env)).all (fun x => x.1.isSome) && decide (([e] : List Expr).length + ([] : List Keyword).length + (if ([] : List Keyword).isEmpty then 0 else 1) < 30)) = true := by rfl)
    (hline : (apos.endLine == cpos.line) = true := by rfl) (hst : starEach [e] X.env = (false, eval e X.env) :: starEach [] X.env := by rfl) (hplain : (backTo cpos (starEach [] X.env)).any (·.1) = false := by rfl) :
    tR X (.Expr (.Call (.Attribute o "append" apos) [e] [] cpos) pos :: rest) D σ C := by
  refine r_of (ps_expr (pe_bm PySem.F.plainAttrs_list PySem.F.slot_list_append PySem.F.type_list_append mt_append pE (pa_cons pE pa_nil hst) hbase hfew hline hst hplain) hs) ?_
  refine ho.ev C eN _ fun C1 e1 => ⟨.inl ⟨rfl, xs, SqL.of (e1 _ _ (eN _ _ hN))⟩, ?_⟩
  refine he C1 (eN.trans e1) _ fun v N' C' g p => ?_
  have g' : Gr N C N' C' := (Gr.of_ex eN e1).trans g
  exact ⟨l, xs, v, rfl, rfl, g'.ext _ _ (eN _ _ hN), sz_lt hz, k v N' C' g' p⟩
end
section
variable {P : Program} {w : World} {K : PySem.W.Frag} {mg : PySem.Str → Option Value} {base : Heap}
def NmsOk (m : Nat) (ns : List PySem.Str) : Prop := ns.length = m ∧ ns.Nodup ∧ ∀ n ∈ ns, NameOk n
def preNms (K : PySem.W.Frag) (vs : List V) (N : Hp) (P : MP) : Prop := ∃ (r q0 : Addr) (m : Nat), vs = [.ref r, .int (m : Int), .ref q0] ∧ N r = some (rngO r) ∧ N q0 = some (.lst []) ∧ m ≤ 3 ∧ mle (mNL N K fun es => ∃ ns, es = strsD ns ∧ NmsOk m ns) P
theorem ok_names (F : DF K mg "_law_names" (top 54)) (B : Bt mg) (c1 : Cl P w K mg base 2 "_law_name" (preNm K)) : Cl P w K mg base 3 "_law_names" (preNms K) := by
  refine cl_of (N := ["_law_rng_here", "_law_many", "_law_used", "_law_found", "_law_k"]) (ps := ["_law_rng_here", "_law_many", "_law_used"]) F (by decide +kernel) (fun vs M Pm h => ?_) (fun _ _ _ _ _ _ us hl => match us, hl with | [_, _, _], _ => rfl) fun f cdv A outer s C E vs M Pm D hr eM h rt nx => ?_
  · obtain ⟨r, q0, m, rfl, _⟩ := h; rfl
  obtain ⟨r, q0, m, rfl, hr0, hq0, hm, hP⟩ := h
  have hN : (["_law_rng_here", "_law_many", "_law_used", "_law_found", "_law_k"] : List PySem.Str).Nodup := by decide
  refine r_set 3 (N := M) (P := mNL M K (· = [])) (j_lstN ja_nilD) eM hN fun v1 N1 C1 g1 p1 => ?_
  obtain ⟨l, xs, ds, rfl, hMl, hl1, hdx, rfl⟩ := p1
  have hxs : xs = [] := by cases hdx; rfl
  subst hxs
  have hCl : C l = none := dom_new g1 hl1 hMl fun _ z => by cases z
  have gl : Gr M C (L2.del N1 l) C1 := g1.del hMl
  have hlC : C1 l = some (.lst []) := g1.sub _ _ hl1
  refine r_for (N := L2.del N1 l) (n := m) (I := fun j => mIs (.int (j : Nat))) (pi_range1 rfl B.range pA) (ji_range (n := m) (ja_cons (jv 1) ja_nil) rfl (by omega)) gl.sub (pg_name (i := 4) hN rfl (Or.inl rfl)) PassesOwn.never rfl
    (fun N2 i σ C2 => ∃ (Mi : Hp) (ns : List PySem.Str) (o4 : Option V), Gr M C Mi C2 ∧ Ex N2 Mi ∧ Mi l = none ∧ C2 l = some (.lst (ns.map V.str)) ∧ NmsOk i ns ∧ σ = [some (.ref r), some (.int (m : Int)), some (.ref q0), some (.ref l), o4])
    (fun N2 C2 g2 => ⟨N2, [], none, gl.trans g2, Ex.refl _, g2.out del_same hlC, g2.ext _ _ hlC, ⟨rfl, .nil, fun _ h => nomatch h⟩, rfl⟩) (fun N2 i σ C2 ⟨Mi, ns, o4, h1, h2, _⟩ => h2.trans h1.sub) (fun N2 i x σ C2 M2 C3 e2 hi hP2 gM hx => ?_) fun N2 σ C2 e2 hP2 => ?_
  · obtain ⟨Mi, ns, o4, gi, eNi, hMl2, hC2, hns, rfl⟩ := hP2
    obtain ⟨gm2, em2⟩ := gM.more eNi gi.sub
    have hx' : x = V.int (i : Nat) := hx
    subst hx'
    have g3 := gi.trans gm2
    have hMl3 := gm2.out hMl2 hC2
    have hC3 := gm2.ext _ _ hC2
    have gq : Gr M C (upd (un Mi M2) l (.lst (ns.map V.str))) C3 := g3.take hC3 hCl hMl
    refine r_appL (N := upd (un Mi M2) l (.lst (ns.map V.str))) (xs := ns.map V.str) (P := mS fun z => NameOk z ∧ z ∉ ns) (jv 3) (j_call c1 hr (ja_cons (P := mIs (.ref r)) (jv 0) (ja_cons (P := mD K (.list (strsD ns))) (j_opP op_cat (jv 2) (jv 3) fun x y M' g hx hy => ?_) ja_nil)) fun vs M' g p => ?_) gq.sub upd_same (by rw [List.length_map]; have := hns.1; omega) fun v N4 C4 g4 p4 => ?_
    · have hx' : x = V.ref q0 := hx
      have hy' : y = V.ref l := hy
      subst hx' hy'
      exact fun C0 eC Q q => ⟨q0, l, [], ns.map V.str, rfl, rfl, eC _ _ (g _ _ (gq.up _ _ hq0)), eC _ _ (g _ _ upd_same), sz_of (by rw [List.length_map, hns.1]; show 0 + i ≤ 100000; omega), fun p hp => q (.ref p) _ _ ((Gr.refl eC).new hp) (Dp.lst (SqL.of upd_same) (dps_strs ns))⟩
    · obtain ⟨x, y, rfl, rfl, hy⟩ := la2 p
      exact ⟨r, y, ns, rfl, g _ _ (gq.up _ _ hr0), by rw [hns.1]; omega, hy, fun _ _ h => h⟩
    · obtain ⟨z, rfl, hz1, hz2⟩ := p4
      have gg : Gr M C (L2.del N4 l) C4 := (gq.trans g4).del hMl
      refine r_nil ⟨L2.del N4 l, ns ++ [z], some (.int (i : Nat)), gg.mut hCl del_same, fun b u hb => ?_, del_same, by rw [upd_same, List.map_append]; rfl, ⟨by rw [List.length_append, hns.1]; rfl, ?_, fun n hn => ?_⟩, rfl⟩
      · have hbl : b ≠ l := fun z => by
          have := gm2.up _ _ (eNi _ _ hb)
          rw [z, hMl3] at this
          cases this
        rw [del_ne hbl]
        exact g4.up _ _ (by rw [upd_ne hbl]; exact gm2.up _ _ (eNi _ _ hb))
      · exact List.nodup_append.mpr ⟨hns.2.1, List.pairwise_singleton _ _, fun a ha b hb => by
          have : b = z := by simpa using hb
          subst this
          exact fun e => hz2 (e ▸ ha)⟩
      · rcases List.mem_append.mp hn with hn | hn
        · exact hns.2.2 n hn
        · have : n = z := by simpa using hn
          subst this
          exact hz1
  · obtain ⟨Mi, ns, o4, gi, eNi, hMl2, hC2, hns, rfl⟩ := hP2
    obtain ⟨g5, p5⟩ := in_list (K := K) (R := fun es => ∃ ns, es = strsD ns ∧ NmsOk m ns) gi hMl2 hCl hC2 (dps_strs ns) ⟨ns, rfl, hns⟩
    refine r_ret (N := upd Mi l (.lst (ns.map V.str))) (jv 3) g5.sub fun v N' C' g p => ?_
    have p' : v = V.ref l := p
    subst p'
    exact rt _ N' C' (g5.trans g) (hP _ _ ((mNL M K _).mono g.up p5))
end
end Gs

set_option Elab.async false
set_option linter.all false
set_option maxRecDepth 100000
set_option maxHeartbeats 4000000
/-! GsWin: _law_windows. -/
namespace Gs
open PySem PySem.Spec PyProof.Rows L2 Evl
/-- windows that may be published, one after the other; not above z -/
structure WsOk (ws : List Wn) (z : Int) : Prop where
  ok : ∀ q ∈ ws, WinOk q
  small : ∀ q ∈ ws, q.1 ≤ z ∧ ∀ h, q.2 = some h → h ≤ z + 2
  low : (ws.map (·.1)).Pairwise (· ≤ ·)
  rise : ∀ (i : Nat) (p q : Wn), ws[i]? = some p → ws[i + 1]? = some q → RiseOk p q
theorem WsOk.nil {z : Int} : WsOk [] z := ⟨fun _ h => (nomatch h), fun _ h => (nomatch h), List.Pairwise.nil, fun _ _ _ h => (nomatch h)⟩
theorem WsOk.mono {ws : List Wn} {z z' : Int} (h : WsOk ws z) (e : z ≤ z') : WsOk ws z' := ⟨h.ok, fun q m => ⟨Int.le_trans (h.small q m).1 e, fun x hx => by have := (h.small q m).2 x hx; omega⟩, h.low, h.rise⟩
theorem WsOk.snoc {ws : List Wn} {z : Int} {q : Wn} (h : WsOk ws z) (hq : WinOk q) (hz : q.1 ≤ z ∧ ∀ h, q.2 = some h → h ≤ z + 2) (hl : ∀ p ∈ ws, p.1 ≤ q.1) (hr : ∀ p, ws.getLast? = some p → RiseOk p q) : WsOk (ws ++ [q]) z := by
  refine ⟨fun p m => ?_, fun p m => ?_, ?_, fun i p r h1 h2 => ?_⟩
  · rcases List.mem_append.mp m with m | m
    · exact h.ok p m
    · have : p = q := by simpa using m
      rw [this]; exact hq
  · rcases List.mem_append.mp m with m | m
    · exact h.small p m
    · have : p = q := by simpa using m
      rw [this]; exact hz
  · rw [List.map_append]
    refine List.pairwise_append.mpr ⟨h.low, List.pairwise_singleton _ _, fun a ha b hb => ?_⟩
    obtain ⟨p, hp, rfl⟩ := List.mem_map.mp ha
    have : b = q.1 := by simpa using hb
    rw [this]; exact hl p hp
  · by_cases hi : i + 1 < ws.length
    · rw [List.getElem?_append_left (by omega)] at h1
      rw [List.getElem?_append_left hi] at h2
      exact h.rise i p r h1 h2
    · rw [List.getElem?_append_right (by omega)] at h2
      have e : i + 1 - ws.length = 0 := by
        cases hk : i + 1 - ws.length with
        | zero => rfl
        | succ k => rw [hk] at h2; cases h2
      rw [e] at h2
      have : q = r := Option.some.inj h2
      subst this
      rw [List.getElem?_append_left (by omega)] at h1
      refine hr p ?_
      rw [List.getLast?_eq_getElem?, show ws.length - 1 = i by omega]
      exact h1
section
variable {X : Cx} {a b c : Expr} {σ : L2.St} {N C : Hp} {P P1 P2 P3 : MP} {D : Ends} {pos : Pos} {rest : List Stmt} {x y z : PySem.Str} {px py pz pt : Pos} {kt k2 : Nat} {pt2 : Pos}
theorem j_ifeB {A : Bool → Prop} (hc : EvB (tT X c) σ N A) (ha : A true → J X a σ N P) (hb : A false → J X b σ N P) : J X (.IfExp c a b pos) σ N P := j_of (pe_ifExp pT pE pE) fun C e Q q =>
  hc C e _ fun k N' C' g hA => by
    cases k with
    | true => exact iteT ((ha hA).up g.up C' g.sub _ fun v N2 C2 g2 p => q v N2 C2 (g.trans g2) p)
    | false => exact iteF ((hb hA).up g.up C' g.sub _ fun v N2 C2 g2 p => q v N2 C2 (g.trans g2) p)
theorem r_par3 (i j l : Nat) (hc : X.calm = true) (hN : X.N.Nodup) (ha : J X a σ N P1) (hb : J X b σ N P2) (hd : J X c σ N P3) (eN : Ex N C) (k : ∀ u v w N' C', Gr N C N' C' → P1.p u N' → P2.p v N' → P3.p w N' → tR X rest D (((σ.set i (some u)).set j (some v)).set l (some w)) C')
    (hij : i ≠ j := by decide) (hil : i ≠ l := by decide) (hjl : j ≠ l := by decide) (hi : X.N[i]? = some x := by rfl) (hj : X.N[j]? = some y := by rfl) (hl : X.N[l]? = some z := by rfl)
    (hx : X.env.scope.names.lookup x = some .local := by rfl) (hy : X.env.scope.names.lookup y = some .local := by rfl) (hz : X.env.scope.names.lookup z = some .local := by rfl) (hw : swappedStores [.Tuple [.Name x px, .Name y py, .Name z pz] kt pt] (.Tuple [a, b, c] k2 pt2) X.env = pure (some [x, y, z]) := by rfl)
    (hs : swapsWithSole [.Tuple [.Name x px, .Name y py, .Name z pz] kt pt] (.Tuple [a, b, c] k2 pt2) pos.line X.env = pure false := by rfl) (hs1 : starEach [a, b, c] X.env = (false, eval a X.env) :: starEach [b, c] X.env := by rfl) (hs2 : starEach [b, c] X.env = (false, eval b X.env) :: starEach [c] X.env := by rfl) (hs3 : starEach [c] X.env = (false, eval c X.env) :: starEach [] X.env := by rfl) :
    tR X (.Assign [.Tuple [.Name x px, .Name y py, .Name z pz] kt pt] (.Tuple [a, b, c] k2 pt2) pos :: rest) D σ C :=
  r_of (ps_par3 hc hN hi hj hl hij hil hjl hx hy hz pA hw hs) ((ja_cons ha (ja_cons hb (ja_cons hd ja_nil hs3) hs2) hs1) C eN _ fun vs N' C' g p => by
    obtain ⟨u, r1, rfl, p1, v, r2, rfl, p2, w, r3, rfl, p3, hr⟩ := p
    have hr' : r3 = [] := hr
    subst hr'
    exact ⟨u, v, w, rfl, k u v w N' C' g p1 p2 p3⟩)
theorem hV_dp {K : PySem.W.Frag} {H : Hp} (h : Option Int) : Dp K H (hV h) (hD h) := by
  cases h with
  | none => exact .non
  | some i => exact .int i
theorem j_optR {h : Option Int} {v : V} {K : PySem.W.Frag} {A : PyData → Prop} (hj : J X a σ N (mIs v)) (e : v = hV h) (hA : A (hD h)) : J X a σ N (mR K A) := j_isR hj (by subst e; cases h with | none => exact .non | some i => exact .int i) hA
end
section
variable {P : Program} {w : World} {K : PySem.W.Frag} {mg : PySem.Str → Option Value} {base : Heap}
def preWins (K : PySem.W.Frag) (vs : List V) (N : Hp) (P : MP) : Prop := ∃ (r : Addr) (m : Nat) (t : Int), vs = [.ref r, .int (m : Int), .int t] ∧ N r = some (rngO r) ∧ m ≤ 10 ∧ 0 ≤ t ∧ t ≤ 1 ∧ mle (mNL N K fun es => ∃ ws : List Wn, es = ws.map wD ∧ ws.length = m ∧ WsOk ws 20) P
def highA (z lo : Int) (d : PyData) : Prop := ∃ h : Option Int, d = hD h ∧ ∀ x, h = some x → lo ≤ x ∧ x ≤ z
theorem ok_windows (F : DF K mg "_law_windows" (top 55)) (B : Bt mg) (c1 : Cl P w K mg base 1 "_law_draw" preDraw) : Cl P w K mg base 2 "_law_windows" (preWins K) := by
  refine cl_of (N := ["_law_rng_here", "_law_many", "_law_loose", "_law_low", "_law_high", "_law_found", "_law_k"]) (ps := ["_law_rng_here", "_law_many", "_law_loose"]) F (by decide +kernel) (fun vs M Pm h => ?_) (fun _ _ _ _ _ _ us hl => match us, hl with | [_, _, _], _ => rfl) fun f cdv A outer s C E vs M Pm D hr eM h rt nx => ?_
  · obtain ⟨r, m, t, rfl, _⟩ := h; rfl
  obtain ⟨r, m, t, rfl, hr0, hm, ht0, ht1, hP⟩ := h
  have hN : (["_law_rng_here", "_law_many", "_law_loose", "_law_low", "_law_high", "_law_found", "_law_k"] : List PySem.Str).Nodup := by decide
  have optI : ∀ i : Int, 0 ≤ i ∧ i ≤ 2 → highA 2 0 (hD (some i)) := fun i hi => ⟨some i, rfl, fun x e => by cases e; exact hi⟩
  refine r_par3 3 4 5 rfl hN (N := M) (P1 := mIs (.int 0)) (P2 := mR K (highA 2 0)) (P3 := mNL M K (· = [])) j_int (j_pick (j_lstA (ja_consA (j_isR (jv 2) (.int t) (optI t (by omega))) (ja_consA (j_isR j_int (.int 1) (optI 1 (by omega))) (ja_consA (j_isR j_int (.int 2) (optI 2 (by omega))) (ja_consA (j_isR j_non .non ⟨none, rfl, fun x e => (nomatch e)⟩) ja_nilA))))) (j_draw c1 hr (jv 0) j_int hr0 (by decide) (by decide))) (j_lstN ja_nilD) eM fun u v1 v2 N1 C1 g1 p1 p2 p3 => ?_
  have p1' : u = V.int 0 := p1
  subst p1'
  obtain ⟨d, ⟨h0, rfl, hh0⟩, p2⟩ := p2
  obtain rfl := dp_hD p2
  obtain ⟨l, xs, ds, rfl, hMl, hl1, hdx, rfl⟩ := p3
  have hxs : xs = [] := by cases hdx; rfl
  subst hxs
  have hCl : C l = none := dom_new g1 hl1 hMl fun _ z => by cases z
  have gl : Gr M C (L2.del N1 l) C1 := g1.del hMl
  have hlC : C1 l = some (.lst []) := g1.sub _ _ hl1
  refine r_for (N := L2.del N1 l) (n := m) (I := fun j => mIs (.int (j : Nat))) (pi_range1 rfl B.range pA) (ji_range (n := m) (ja_cons (jv 1) ja_nil) rfl (by omega)) gl.sub (pg_name (i := 6) hN rfl (Or.inl rfl)) PassesOwn.never rfl
    (fun N2 i σ C2 => ∃ (Mi : Hp) (xs : List V) (ws : List Wn) (lo : Int) (hi : Option Int) (o6 : Option V), Gr M C Mi C2 ∧ Ex N2 Mi ∧ Mi l = none ∧ C2 l = some (.lst xs) ∧ DpAll K Mi xs (ws.map wD) ∧ ws.length = i ∧ WsOk ws (2 * (i : Int)) ∧ WinOk (lo, hi) ∧ lo ≤ 2 * (i : Int) ∧ (∀ h, hi = some h → h ≤ 2 * (i : Int) + 2) ∧ (∀ p ∈ ws, p.1 ≤ lo) ∧ (∀ p, ws.getLast? = some p → RiseOk p (lo, hi)) ∧ σ = [some (.ref r), some (.int (m : Int)), some (.int t), some (.int lo), some (hV hi), some (.ref l), o6])
    (fun N2 C2 g2 => ⟨N2, [], [], 0, h0, none, gl.trans g2, Ex.refl _, g2.out del_same hlC, g2.ext _ _ hlC, .nil, rfl, WsOk.nil, ⟨Int.le_refl _, fun h e => (hh0 h e).1⟩, by omega, fun h e => by have := (hh0 h e).2; omega, fun _ h => (nomatch h), fun _ h => (nomatch h), rfl⟩) (fun N2 i σ C2 ⟨Mi, xs, ws, lo, hi, o6, h1, h2, _⟩ => h2.trans h1.sub) (fun N2 i x σ C2 M2 C3 e2 hi hP2 gM hx => ?_) fun N2 σ C2 e2 hP2 => ?_
  · obtain ⟨Mi, xs, ws, lo, h1, o6, gi, eNi, hMl2, hC2, hde, hwl, wok, wq, hlo, hhi, hlow, hrise, rfl⟩ := hP2
    obtain ⟨gm2, em2⟩ := gM.more eNi gi.sub
    have hx' : x = V.int (i : Nat) := hx
    subst hx'
    have g3 := gi.trans gm2
    have hMl3 := gm2.out hMl2 hC2
    have hC3 := gm2.ext _ _ hC2
    have hxl : xs.length = ws.length := by rw [dps_len hde, List.length_map]
    refine r_app (l := l) (xs := xs) (N := un Mi M2) (P := mD K (wD (lo, h1))) (jv 5) (j_tup (K := K) (ja_consD ((jv 3).val (.int _)) (ja_consD ((jv 4).val (hV_dp h1)) ja_nilD)) (by show 2 ≤ 100000; decide)) g3.sub hMl3 hC3 (by omega) fun v N4 C4 g4 hN4 p4 => ?_
    have g34 : Gr M C N4 (upd C4 l (.lst (xs ++ [v]))) := (g3.trans g4).mut hCl hN4
    have hde4 : DpAll K N4 (xs ++ [v]) ((ws ++ [(lo, h1)]).map wD) := by rw [List.map_append]; exact dps_snoc (dps_mono (gm2.up.trans g4.up) hde) p4
    have hC4 : (upd C4 l (.lst (xs ++ [v]))) l = some (.lst (xs ++ [v])) := upd_same
    generalize upd C4 l (.lst (xs ++ [v])) = C4' at g34 hC4
    have hlw : (ws ++ [(lo, h1)]).length = i + 1 := by rw [List.length_append, hwl]; rfl
    have wok2 : WsOk (ws ++ [(lo, h1)]) (2 * ((i + 1 : Nat) : Int)) := (wok.mono (by omega)).snoc wq ⟨by show lo ≤ _; omega, fun h e => by have := hhi h e; omega⟩ hlow hrise
    have hlow2 : ∀ lo2, lo ≤ lo2 → ∀ p ∈ ws ++ [(lo, h1)], p.1 ≤ lo2 := fun lo2 hl p hp => by
      rcases List.mem_append.mp hp with hp | hp
      · exact Int.le_trans (hlow p hp) hl
      · have : p = (lo, h1) := by simpa using hp
        rw [this]; exact hl
    have hlast : ∀ q, RiseOk (lo, h1) q → ∀ p, (ws ++ [(lo, h1)]).getLast? = some p → RiseOk p q := fun q hq p hp => by
      rw [List.getLast?_append] at hp
      have : (lo, h1) = p := by simpa using hp
      rw [← this]; exact hq
    have eN4 : Ex N2 N4 := eNi.trans (gm2.up.trans g4.up)
    have hr4 := g34.up _ _ hr0
    refine r_set 3 (N := N4) (P := mI fun j => lo ≤ j ∧ j ≤ lo + 2) (j_opP (P1 := mIs (.int lo)) (P2 := mR K fun d => ∃ j : Int, d = .int j ∧ 0 ≤ j ∧ j ≤ 2) op_add (jv 3) (j_pick (j_lstA (ja_consA (j_isR j_int (.int 0) ⟨0, rfl, by decide, by decide⟩) (ja_consA (j_isR j_int (.int 0) ⟨0, rfl, by decide, by decide⟩) (ja_consA (j_isR (j_sub j_int (jv 2)) (.int (1 - t)) ⟨1 - t, rfl, by omega, by omega⟩) (ja_consA (j_isR j_int (.int 1) ⟨1, rfl, by decide, by decide⟩) (ja_consA (j_isR (j_sub j_int (jv 2)) (.int (2 - t)) ⟨2 - t, rfl, by omega, by omega⟩) ja_nilA)))))) (j_draw c1 hr (jv 0) j_int hr4 (by decide) (by decide))) fun x y M' g hx hy => ?_) g34.sub hN fun v5 N5 C5 g5 p5 => ?_
    · have hx' : x = V.int lo := hx
      obtain ⟨d, ⟨j, rfl, j0, j2⟩, hy⟩ := hy
      obtain rfl := dp_int hy
      subst hx'
      exact rp_rv rv_I0 ⟨lo + j, rfl, by omega, by omega⟩
    obtain ⟨lo2, rfl, hl1, hl2⟩ := p5
    have g45 := g34.trans g5
    have hN5 : N5 l = none := g5.out hN4 hC4
    have hC5 := g5.ext _ _ hC4
    have hde5 := dps_mono g5.up hde4
    cases h1 with
    | none =>
      refine r_skip (N := N5) (jt_cmp op_notN (jv 4) j_non (by rw [show V.bl false = V.bl (!decide (hV none = V.non)) from rfl]; exact rv_notN)) g45.sub fun C6 e6 => ?_
      exact r_nil ⟨N5, xs ++ [v], ws ++ [(lo, none)], lo2, none, some (.int (i : Nat)), g45.grow e6, eN4.trans g5.up, hN5, e6 _ _ hC5, hde5, hlw, wok2, ⟨by have := wq.1; show 0 ≤ lo2; omega, fun _ e => (nomatch e)⟩, by omega, fun _ e => (nomatch e), hlow2 lo2 hl1, hlast (lo2, none) ⟨hl1, rfl⟩, rfl⟩
    | some h =>
      have hh := hhi h rfl
      refine r_take (N := N5) (jt_cmp op_notN (jv 4) j_non (by rw [show V.bl true = V.bl (!decide (hV (some h) = V.non)) from rfl]; exact rv_notN)) g45.sub fun C6 e6 => ?_
      have hr5 := g45.up _ _ hr0
      refine r_set 4 (N := N5) (P := mI fun x => lo2 + t ≤ x ∧ h ≤ x ∧ x ≤ 2 * ((i + 1 : Nat) : Int) + 2) (j_cb (call_max2 rfl) B.max PyProof.Rows.Boot.«max» (ja_cons (P := mIs (.int (lo2 + t))) (j_add (jv 3) (jv 2)) (ja_cons (P := mI fun x => h ≤ x ∧ x ≤ h + 2) (j_opP (P1 := mIs (.int h)) (P2 := mR K fun d => ∃ j : Int, d = .int j ∧ 0 ≤ j ∧ j ≤ 2) op_add (jv 4) (j_pick (j_lstA (ja_consA (j_isR (jv 2) (.int t) ⟨t, rfl, by omega, by omega⟩) (ja_consA (j_isR j_int (.int 1) ⟨1, rfl, by decide, by decide⟩) (ja_consA (j_isR j_int (.int 1) ⟨1, rfl, by decide, by decide⟩) (ja_consA (j_isR j_int (.int 2) ⟨2, rfl, by decide, by decide⟩) ja_nilA))))) (j_draw c1 hr (jv 0) j_int hr5 (by decide) (by decide))) fun x y M' g hx hy => ?_) ja_nil)) fun vs M' g p => ?_) (g45.sub.trans e6) hN fun v7 N7 C7 g7 p7 => ?_
      · have hx' : x = V.int h := hx
        obtain ⟨d, ⟨j, rfl, j0, j2⟩, hy⟩ := hy
        obtain rfl := dp_int hy
        subst hx'
        exact rp_rv rv_I0 ⟨h + j, rfl, by omega, by omega⟩
      · obtain ⟨a, b, rfl, ha, ⟨b2, rfl, hb1, hb2⟩⟩ := la2 p
        have ha' : a = V.int (lo2 + t) := ha
        subst ha'
        refine fun C0 eC Q q => ⟨_, _, rfl, q _ _ _ (Gr.refl eC) ⟨_, rfl, ?_⟩⟩
        split <;> refine ⟨by omega, by omega, by omega⟩
      obtain ⟨x, rfl, hx1, hx2, hx3⟩ := p7
      have g47 := (g45.grow e6).trans g7
      refine r_set 4 (N := N7) (P := mR K fun d => ∃ h2 : Option Int, d = hD h2 ∧ ∀ y, h2 = some y → y = x) (j_ifeB (A := fun _ => True) (jb_cmpP op_eq (j_draw c1 hr (jv 0) j_int (g47.up _ _ hr0) (by decide) (by decide)) j_int fun x y M' g hx hy => ?_) (fun _ => j_isR j_non .non ⟨none, rfl, fun _ e => (nomatch e)⟩) fun _ => j_isR (jv 4) (.int x) ⟨some x, rfl, fun y e => by cases e; rfl⟩) g47.sub hN fun v8 N8 C8 g8 p8 => ?_
      · obtain ⟨j, rfl, h0, h9⟩ := hx
        have hy' : y = V.int 0 := hy
        subst hy'
        exact rp_rv (rv_val fun H1 e Q q => ⟨rfl, q⟩) ⟨_, rfl, trivial⟩
      obtain ⟨d, ⟨h2, rfl, hh2⟩, p8⟩ := p8
      obtain rfl := dp_hD p8
      have g48 := g47.trans g8
      have g78 := g7.trans g8
      refine r_nil (r_nil ⟨N8, xs ++ [v], ws ++ [(lo, some h)], lo2, h2, some (.int (i : Nat)), g48, eN4.trans (g5.up.trans g78.up), g78.out hN5 (e6 _ _ hC5), g78.ext _ _ (e6 _ _ hC5), dps_mono g78.up hde5, hlw, wok2, ⟨by have := wq.1; show 0 ≤ lo2; omega, fun y e => by rw [hh2 y e]; show lo2 ≤ x; omega⟩, by omega, fun y e => by rw [hh2 y e]; exact hx3, hlow2 lo2 hl1, hlast (lo2, h2) ⟨hl1, ?_⟩, rfl⟩)
      show reachB h2 h = true
      cases h2 with
      | none => rfl
      | some y =>
        rw [hh2 y rfl]
        exact decide_eq_true hx2
  · obtain ⟨Mi, xs, ws, lo, h1, o6, gi, eNi, hMl2, hC2, hde, hwl, wok, _, _, _, _, _, rfl⟩ := hP2
    obtain ⟨g5, p5⟩ := in_list (K := K) (R := fun es => ∃ ws : List Wn, es = ws.map wD ∧ ws.length = m ∧ WsOk ws 20) gi hMl2 hCl hC2 hde ⟨ws, rfl, hwl, wok.mono (by omega)⟩
    refine r_ret (N := upd Mi l (.lst xs)) (jv 5) g5.sub fun v N' C' g p => ?_
    have p' : v = V.ref l := p
    subst p'
    exact rt _ N' C' (g5.trans g) (hP _ _ ((mNL M K _).mono g.up p5))
end
end Gs

set_option Elab.async false
set_option linter.all false
set_option maxRecDepth 100000
set_option maxHeartbeats 8000000
/-! GsRows: _law_rows. -/
namespace Gs
open PySem PySem.Spec PyProof.Rows L2 Evl
/-- a row: the module, what it uses, its versions' windows -/
structure Rw where
  nm : PySem.Str
  us : List PySem.Str
  vs : List (List Wn)
def winsD (v : List Wn) : PyData := .list (v.map wD)
def rwD (r : Rw) : PyData := .tuple [.str r.nm, .tuple (strsD r.us), .list (r.vs.map winsD)]
structure RwOk (ns : List PySem.Str) (r : Rw) : Prop where
  nd : r.us.Nodup
  isin : ∀ n ∈ r.us, n ∈ ns ∧ n ≠ r.nm
  few : r.vs.length ≤ 4
  wide : ∀ v ∈ r.vs, v.length = r.us.length
  col : ∀ j, j < r.us.length → WsOk (r.vs.map (·.getD j (0, none))) 20
structure RwsOk (ns : List PySem.Str) (rs : List Rw) : Prop where
  names : rs.map (·.nm) = ns
  ok : ∀ r ∈ rs, RwOk ns r
/-- a new list of rows -/
def mRows (N : Hp) (K : PySem.W.Frag) : MP := ⟨fun v H => ∃ l xs ns rs m, v = .ref l ∧ N l = none ∧ H l = some (.lst xs) ∧ DpAll K (L2.del H l) xs (rs.map rwD) ∧ NmsOk m ns ∧ 1 ≤ m ∧ m ≤ 3 ∧ RwsOk ns rs, fun e ⟨l, xs, ns, rs, m, h1, h2, h3, h4, h5⟩ => ⟨l, xs, ns, rs, m, h1, h2, e _ _ h3, dps_mono (fun b u hb => by
  by_cases q : b = l
  · subst q; rw [del_same] at hb; cases hb
  · rw [del_ne q] at hb ⊢; exact e _ _ hb) h4, h5⟩⟩
/-- a new tuple of two that were promised -/
def mTP (P1 P2 : MP) : MP := ⟨fun v H => ∃ b x y, v = .ref b ∧ H b = some (.tup [x, y]) ∧ P1.p x H ∧ P2.p y H, fun e ⟨b, x, y, h1, h2, h3, h4⟩ => ⟨b, x, y, h1, e _ _ h2, P1.mono e h3, P2.mono e h4⟩⟩
section
variable {X : Cx} {a b c e : Expr} {σ : L2.St} {N C : Hp} {P P1 P2 : MP} {pos p p2 : Pos} {k : Nat} {n : Int} {ds : List PyData}
theorem j_tupP (h1 : J X a σ N P1) (h2 : J X b σ N P2) (hs1 : starEach [a, b] X.env = (false, eval a X.env) :: starEach [b] X.env := by rfl) (hs2 : starEach [b] X.env = (false, eval b X.env) :: starEach [] X.env := by rfl) : J X (.Tuple [a, b] k pos) σ N (mTP P1 P2) :=
  j_of (pe_tup pA) fun C eC Q q => (ja_cons h1 (ja_cons h2 ja_nil hs2) hs1) C eC _ fun vs N1 C1 g p => by
    obtain ⟨x, y, rfl, hx, hy⟩ := la2 p
    exact ⟨(by show 2 ≤ sizeLine; exact sz_of (by decide)), fun q0 hq => q (.ref q0) _ _ (g.new hq) ⟨q0, x, y, rfl, upd_same, P1.mono (Ex.new (fresh_back g.sub hq)) hx, P2.mono (Ex.new (fresh_back g.sub hq)) hy⟩⟩
theorem j_takeO (he : J X e σ N (mD X.K (.list ds))) (hb : J X b σ N (mI fun j => 0 ≤ j ∧ j < n)) (hk : n ≤ (ds.length : Int) + 1) : J X (.Subscript e (.Slice none (some b) none p2) pos) σ N (mR X.K fun d => ∃ k : Nat, k ≤ ds.length ∧ d = .list (ds.take k)) :=
  j_of (pe_slice sl_list pE po_none (po_some pE)) fun C eC Q q => he C eC _ fun v N1 C1 g p => by
    obtain ⟨l, xs, rfl, s, al⟩ := dp_lst p
    refine hb.up g.up C1 g.sub _ fun v N2 C2 g2 p2 => ?_
    obtain ⟨j, rfl, h0, h1⟩ := p2
    obtain ⟨k, rfl⟩ := Int.eq_ofNat_of_zero_le h0
    have hk2 : k ≤ ds.length := by omega
    have g12 := g.trans g2
    refine ⟨_, rfl, l, xs, rfl, ex_l (g2.up.trans g2.sub) s, fun p hp => ?_⟩
    have hn : N2 p = none := fresh_back g12.sub hp
    refine q (.ref p) (upd N2 p (.lst _)) _ (g12.new hp) ⟨.list (ds.take k), ⟨k, hk2, rfl⟩, .lst (SqL.of upd_same) ?_⟩
    rw [cutV_to (by rw [dps_len al]; exact hk2)]
    exact dps_take k (dps_mono (g2.up.trans (Ex.new hn)) al)
theorem j_tupleD {ds : List PyData} (he : J X e σ N (mD X.K (.list ds))) (hm : X.mg "tuple" = none) (hz : ds.length ≤ 100000) (hg : Gl X "tuple" := by rfl)
    (hs : starEach [e] X.env = (false, eval e X.env) :: starEach [] X.env := by rfl) (hpl : (backTo pos (starEach [] X.env)).any (·.1) = false := by rfl) : J X (.Call (.Name "tuple" p) [e] [] pos) σ N (mD X.K (.tuple ds)) :=
  j_cty1 call_tuple_of hm PyProof.Rows.Boot.«tuple» he (fun v M g hp => fun C eC Q q => by
    obtain ⟨a, xs, rfl, s, al⟩ := dp_lst hp
    refine ⟨a, xs, rfl, .inl ⟨ex_l eC s, fun l hl => ?_⟩⟩
    have hn : M l = none := fresh_back eC hl
    exact q (.ref l) (upd M l (.tup xs)) _ ((Gr.refl eC).new hl) (.tup (SqT.of upd_same) (dps_mono (Ex.new hn) al))) hg (hs := hs) (hpl := hpl)
end
/-- the k-th of each column -/
def rowsOf (cols : List (List Wn)) (m : Nat) : List (List Wn) := (List.range m).map fun k => cols.map fun c => c.getD k (0, none)
theorem rowsOf_col {cols : List (List Wn)} {m j : Nat} (hj : j < cols.length) (hl : ∀ c ∈ cols, c.length = m) : (rowsOf cols m).map (·.getD j (0, none)) = cols[j] := by
  unfold rowsOf
  rw [List.map_map]
  have hm := hl _ (List.getElem_mem hj)
  refine List.ext_getElem (by rw [List.length_map, List.length_range, hm]) fun k h1 h2 => ?_
  rw [List.getElem_map, List.getElem_range]
  show (cols.map fun c => c.getD k (0, none)).getD j (0, none) = _
  rw [List.getD_eq_getElem?_getD, List.getElem?_map, List.getElem?_eq_getElem hj]
  show (cols[j]).getD k (0, none) = _
  rw [List.getD_eq_getElem?_getD, List.getElem?_eq_getElem h2] <;> rfl
section
variable {P : Program} {w : World} {K : PySem.W.Frag} {mg : PySem.Str → Option Value} {base : Heap}
def colsR (n m : Nat) (d : PyData) : Prop := ∃ cols : List (List Wn), d = .list (cols.map winsD) ∧ cols.length = n ∧ ∀ c ∈ cols, c.length = m ∧ WsOk c 20
def preRows (vs : List V) (N : Hp) (P : MP) (K : PySem.W.Frag) : Prop := ∃ (r : Addr) (t : Int), vs = [.ref r, .int 3, .int 4, .int t] ∧ N r = some (rngO r) ∧ 0 ≤ t ∧ t ≤ 1 ∧ mle (mRows N K) P
theorem F2.exR {A : PyData → Prop} {α : Type} {f : α → PyData} {B : α → Prop} (k : ∀ d, A d → ∃ a, d = f a ∧ B a) : ∀ {is : List Nat} {ds : List PyData}, F2 (fun _ d => A d) is ds → ∃ as : List α, ds = as.map f ∧ as.length = is.length ∧ ∀ a ∈ as, B a
  | _, _, .nil => ⟨[], rfl, rfl, fun _ h => (nomatch h)⟩
  | _, _, .cons h r => by
    obtain ⟨a, rfl, ha⟩ := k _ h
    obtain ⟨as, rfl, hl, has⟩ := F2.exR k r
    exact ⟨a :: as, rfl, by rw [List.length_cons, hl, List.length_cons], fun b hb => by
      rcases List.mem_cons.mp hb with e | hb
      · rw [e]; exact ha
      · exact has b hb⟩
theorem ok_rows (F : DF K mg "_law_rows" (top 56)) (B : Bt mg) (c1 : Cl P w K mg base 1 "_law_draw" preDraw) (c2 : Cl P w K mg base 2 "_law_shuffled" (preShuf K)) (c3 : Cl P w K mg base 3 "_law_names" (preNms K)) (c4 : Cl P w K mg base 2 "_law_windows" (preWins K)) : Cl P w K mg base 4 "_law_rows" (fun vs N P => preRows vs N P K) := by
  refine cl_of (N := ["_law_rng_here", "_law_modules", "_law_versions", "_law_loose", "_law_names_here", "_law_found", "_law_name_here", "_law_others", "_law_uses", "_law_many", "_law_columns", "_law_other", "_law_used", "_law_column", "_law_k"]) (ps := ["_law_rng_here", "_law_modules", "_law_versions", "_law_loose"]) F (by decide +kernel) (fun vs M Pm h => ?_) (fun _ _ _ _ _ _ us hl => match us, hl with | [_, _, _, _], _ => rfl) fun f cdv A outer s C E vs M Pm D hr eM h rt nx => ?_
  · obtain ⟨r, t, rfl, _⟩ := h; rfl
  obtain ⟨r, t, rfl, hr0, ht0, ht1, hP⟩ := h
  have hN : (["_law_rng_here", "_law_modules", "_law_versions", "_law_loose", "_law_names_here", "_law_found", "_law_name_here", "_law_others", "_law_uses", "_law_many", "_law_columns", "_law_other", "_law_used", "_law_column", "_law_k"] : List PySem.Str).Nodup := by decide +kernel
  refine r_set 4 (N := M) (P := mR K fun d => ∃ (m : Nat) (ns : List PySem.Str), d = .list (strsD ns) ∧ 1 ≤ m ∧ m ≤ 3 ∧ NmsOk m ns) (j_call c3 hr (ja_cons (P := mIs (.ref r)) (jv 0) (ja_cons (P := mI fun j => 1 ≤ j ∧ j ≤ 3) (j_opP (P1 := mIs (.int 1)) (P2 := mI fun j => 0 ≤ j ∧ j < 3) op_add j_int (j_draw c1 hr (jv 0) (jv 1) hr0 (by decide) (by decide)) fun x y M' g hx hy => ?_) (ja_cons (P := mLX M []) (j_lstX ev_as0 (Nat.zero_le _)) ja_nil))) fun vs M' g p => ?_) eM hN fun v1 N1 C1 g1 p1 => ?_
  · have hx' : x = V.int 1 := hx
    obtain ⟨j, rfl, h0, h3⟩ := hy
    subst hx'
    exact rp_rv rv_I0 ⟨1 + j, rfl, by omega, by omega⟩
  · obtain ⟨a, b, c, rfl, ha, ⟨j, rfl, h1, h3⟩, ⟨q0, rfl, _, hq0⟩⟩ := la3 p
    have ha' : a = V.ref r := ha
    subst ha'
    obtain ⟨m, rfl⟩ := Int.eq_ofNat_of_zero_le (show 0 ≤ j by omega)
    exact ⟨r, q0, m, rfl, g _ _ hr0, hq0, by omega, fun v H p => mNL_R p fun ds ⟨ns, h1', h2'⟩ => ⟨m, ns, by rw [h1'], by omega, by omega, h2'⟩⟩
  obtain ⟨d, ⟨m, ns, rfl, hm1, hm3, hns⟩, hd4⟩ := p1
  refine r_set 5 (N := N1) (P := mNL N1 K (· = [])) (j_lstN ja_nilD) g1.sub hN fun v2 N2 C2 g2 p2 => ?_
  obtain ⟨l, xs, ds, rfl, hMl, hl1, hdx, rfl⟩ := p2
  have hxs : xs = [] := by cases hdx; rfl
  subst hxs
  have hC1l : C1 l = none := dom_new g2 hl1 hMl fun _ z => by cases z
  have hCl : C l = none := fresh_back g1.ext hC1l
  have gl : Gr M C (L2.del N2 l) C2 := g1.trans (g2.del hMl)
  have el : Ex N1 (L2.del N2 l) := (g2.del hMl).up
  have hlC : C2 l = some (.lst []) := g2.sub _ _ hl1
  have hnl : (strsD ns).length = ns.length := List.length_map _
  refine r_for (N := L2.del N2 l) (n := (strsD ns).length) (I := fun j => mR K fun d => (strsD ns)[j]? = some d) (pi_list pE) (ji_list (j_var 4 (P := mD K _) (dp_mono el hd4))) gl.sub (pg_name (i := 6) hN rfl (Or.inr rfl)) PassesOwn.never rfl
    (fun N3 i σ C3 => ∃ (Mi : Hp) (xs : List V) (rs : List Rw) (o6 o7 o8 o9 o10 : Option V), Gr M C Mi C3 ∧ Ex N3 Mi ∧ Ex N1 Mi ∧ Mi l = none ∧ C3 l = some (.lst xs) ∧ DpAll K Mi xs (rs.map rwD) ∧ rs.map (·.nm) = ns.take i ∧ (∀ r ∈ rs, RwOk ns r) ∧ rs.length = i ∧ σ = [some (.ref r), some (.int 3), some (.int 4), some (.int t), some v1, some (.ref l), o6, o7, o8, o9, o10, none, none, none, none])
    (fun N3 C3 g3 => ⟨N3, [], [], none, none, none, none, none, gl.trans g3, Ex.refl _, el.trans g3.up, g3.out del_same hlC, g3.ext _ _ hlC, .nil, (by rw [List.take_zero]; rfl), fun _ h => (nomatch h), rfl, rfl⟩) (fun N3 i σ C3 ⟨Mi, xs, rs, o6, o7, o8, o9, o10, h1, h2, _⟩ => h2.trans h1.sub) (fun N3 i x σ C3 M4 C4 e3 hi hP3 gM hx => ?_) fun N3 σ C3 e3 hP3 => ?_
  · obtain ⟨Mi, xs, rs, o6, o7, o8, o9, o10, gi, eNi, e1i, hMl2, hC3, hde, hrn, hro, hrl, rfl⟩ := hP3
    obtain ⟨gm2, em2⟩ := gM.more eNi gi.sub
    obtain ⟨d, hd1, hd2⟩ := hx
    unfold strsD at hd1
    have hi' : i < ns.length := by omega
    rw [List.getElem?_map, List.getElem?_eq_getElem hi'] at hd1
    have hd1' : PyData.str ns[i] = d := Option.some.inj hd1
    subst hd1'
    obtain rfl := dp_str hd2
    have g4 := gi.trans gm2
    have hMl4 := gm2.out hMl2 hC3
    have hC4 := gm2.ext _ _ hC3
    have e14 : Ex N1 (un Mi M4) := e1i.trans gm2.up
    have hr4 := g4.up _ _ hr0
    have hd44 : Dp K (un Mi M4) v1 (.list (strsD ns)) := dp_mono e14 hd4
    refine r_set 7 (N := un Mi M4) (P := mR K fun d => ∃ ms : List PySem.Str, d = .list (strsD ms) ∧ ms.Perm (ns.filter fun x => x != ns[i])) (j_call c2 hr (ja_cons (P := mIs (.ref r)) (jv 0) (ja_cons (P := mD K (.list (strsD (ns.filter fun x => x != ns[i])))) (J.imp (P := mNL (un Mi M4) K (F2 (fun k d => d = PyData.str (ns.getD k "")) ((List.range (strsD ns).length).filter fun k => ns.getD k "" != ns[i]))) ?_ fun v M' g p => mNL_D p fun es h => ?_) ja_nil)) fun vs M' g p => ?_) g4.sub hN fun v5 N5 C5 g5 p5 => ?_
    · refine j_lc (own := [("_law_other", 11)]) (I := fun j => mR K fun d => (strsD ns)[j]? = some d) (fun k d => d = PyData.str (ns.getD k "")) (fun k => ns.getD k "" != ns[i]) 11 rfl hN (pi_list pE) (ji_list (j_var 4 (P := mD K _) hd44)) (by rw [hnl]; have := hns.1; omega) (blk_by (N := ["_law_rng_here", "_law_modules", "_law_versions", "_law_loose", "_law_names_here", "_law_found", "_law_name_here", "_law_others", "_law_uses", "_law_many", "_law_columns", "_law_other", "_law_used", "_law_column", "_law_k"]) (sc := defScope (top 56)) (by decide +kernel)) (fun s0 H0 C0 cl fp => pg_name hN rfl (Or.inl rfl)) (fun x => rfl) fun k x M2 hk eM2 hx => ?_
      obtain ⟨d, h1, h2⟩ := hx
      have hk' : k < ns.length := by omega
      have e : ns.getD k "" = ns[k] := by rw [List.getD_eq_getElem?_getD, List.getElem?_eq_getElem hk'] <;> rfl
      have hd' : d = .str ns[k] := by
        unfold strsD at h1
        rw [List.getElem?_map, List.getElem?_eq_getElem hk'] at h1
        exact (Option.some.inj h1).symm
      subst hd'
      obtain rfl := dp_str h2
      rw [e]
      exact ⟨fun s0 H0 C0 cl fp => jts_one (jt_cmp op_ne (jv 11) (jv 6) rv_neS), fun _ s0 H0 C0 cl fp => (jv 11).imp fun y M3 g p => ⟨_, rfl, by
        have p' : y = V.str ns[k] := p
        subst p'
        exact .str _⟩⟩
    · rw [F2.map h, hnl]
      exact filter_places (fun x : PySem.Str => x != ns[i]) (fun x => PyData.str x) ns ""
    · obtain ⟨a, b, rfl, ha, hb⟩ := la2 p
      have ha' : a = V.ref r := ha
      subst ha'
      refine ⟨r, b, ns.filter fun x => x != ns[i], rfl, g _ _ hr4, ?_, hb, fun v H p => mNL_R p fun ds ⟨ms, h1, h2⟩ => ⟨ms, by rw [h1], h2⟩⟩
      have := List.length_filter_le (fun x => x != ns[i]) ns
      have := hns.1
      omega
    obtain ⟨d, ⟨ms, rfl, hpm⟩, hd7⟩ := p5
    have g45 := g4.trans g5
    have hr5 := g45.up _ _ hr0
    have hml : ms.length ≤ 3 := by
      have h1 := hpm.length_eq
      have h2 := List.length_filter_le (fun x => x != ns[i]) ns
      have := hns.1
      omega
    have hsl : (strsD ms).length = ms.length := List.length_map _
    refine r_asg (N := N5) (P := mTP (mR K fun d => ∃ k : Nat, k ≤ (strsD ms).length ∧ d = .list ((strsD ms).take k)) (mI fun j => 1 ≤ j ∧ j ≤ 4)) (j_tupP (j_takeO (n := if ((strsD ms).length : Int) + 1 < 3 then ((strsD ms).length : Int) + 1 else 3) (j_var 7 (P := mD K _) hd7) (j_draw c1 hr (jv 0) (j_cb (call_min2 rfl) B.min PyProof.Rows.Boot.«min» (ja_cons (P := mIs (.int 3)) j_int (ja_cons (P := mIs (.int ((strsD ms).length + 1))) (j_add (j_lenL (j_var 7 (P := mD K _) hd7) B.len) j_int) ja_nil)) fun vs M' g p => ?_) hr5 (by split <;> omega) (by split <;> omega)) (by split <;> omega)) (j_opP (P1 := mIs (.int 1)) (P2 := mI fun j => 0 ≤ j ∧ j < 4) op_add j_int (j_draw c1 hr (jv 0) (jv 2) hr5 (by decide) (by decide)) fun x y M' g hx hy => ?_)) g45.sub (pg_tup rfl (pgs_cons (pg_name (i := 8) hN rfl (Or.inl rfl)) (pgs_cons (pg_name (i := 9) hN rfl (Or.inr rfl)) pgs_nil))) fun v6 N6 C6 g6 p6 => ?_
    · obtain ⟨a, b, rfl, ha, hb⟩ := la2 p
      have ha' : a = V.int 3 := ha
      have hb' : b = V.int ((strsD ms).length + 1) := hb
      subst ha' hb'
      exact fun C0 eC Q q => ⟨_, _, rfl, q _ _ _ (Gr.refl eC) rfl⟩
    · have hx' : x = V.int 1 := hx
      obtain ⟨j, rfl, h0, h3⟩ := hy
      subst hx'
      exact rp_rv rv_I0 ⟨1 + j, rfl, by omega, by omega⟩
    obtain ⟨tb, uv, mv, rfl, htb, ⟨d, ⟨k, hk, rfl⟩, hd8⟩, ⟨j, rfl, hj1, hj4⟩⟩ := p6
    obtain ⟨q, rfl⟩ := Int.eq_ofNat_of_zero_le (show 0 ≤ j by omega)
    refine ⟨tb, _, rfl, SqT.of (g6.sub _ _ htb), rfl, _, _, rfl, _, _, rfl, rfl, ?_⟩
    have hus : (strsD ms).take k = strsD (ms.take k) := by unfold strsD; rw [List.map_take]
    rw [hus] at hd8
    have hul : (ms.take k).length ≤ 3 := by rw [List.length_take]; omega
    have hsu : (strsD (ms.take k)).length = (ms.take k).length := List.length_map _
    have g46 := g45.trans g6
    have hr6 := g46.up _ _ hr0
    refine r_set 10 (N := N6) (P := mR K (colsR (ms.take k).length q)) (J.imp (P := mNL N6 K (F2 (fun (_ : Nat) d => ∃ c : List Wn, d = winsD c ∧ c.length = q ∧ WsOk c 20) ((List.range (strsD (ms.take k)).length).filter fun _ => true))) ?_ fun v M' g p => ?_) g46.sub hN fun v7 N7 C7 g7 p7 => ?_
    · refine j_lc (own := [("_law_used", 12)]) (I := fun j => mR K fun d => (strsD (ms.take k))[j]? = some d) (fun _ d => ∃ c : List Wn, d = winsD c ∧ c.length = q ∧ WsOk c 20) (fun _ => true) 12 rfl hN (pi_list pE) (ji_list (j_var 8 (P := mD K _) hd8)) (by omega) (blk_by (N := ["_law_rng_here", "_law_modules", "_law_versions", "_law_loose", "_law_names_here", "_law_found", "_law_name_here", "_law_others", "_law_uses", "_law_many", "_law_columns", "_law_other", "_law_used", "_law_column", "_law_k"]) (sc := defScope (top 56)) (by decide +kernel)) (fun s0 H0 C0 cl fp => pg_name hN rfl (Or.inl rfl)) (fun x => rfl) fun k2 x M2 hk2 eM2 hx => ⟨fun s0 H0 C0 cl fp => jts_nil, fun _ s0 H0 C0 cl fp => ?_⟩
      refine j_call c4 (by exact hr) (ja_cons (P := mIs (.ref r)) (jv 0) (ja_cons (P := mIs (.int (q : Int))) (jv 9) (ja_cons (P := mIs (.int t)) (jv 3) ja_nil))) fun vs M' g p => ?_
      obtain ⟨a, b, c, rfl, ha, hb, hc⟩ := la3 p
      have ha' : a = V.ref r := ha
      have hb' : b = V.int q := hb
      have hc' : c = V.int t := hc
      subst ha' hb' hc'
      exact ⟨r, q, t, rfl, g _ _ (eM2 _ _ hr6), by omega, ht0, ht1, fun v H p => mNL_R p fun ds ⟨ws, h1, h2, h3⟩ => ⟨ws, by rw [h1]; rfl, h2, h3⟩⟩
    · refine mNL_R p fun ds h => ?_
      obtain ⟨cols, h1, h2, h3⟩ := F2.exR (f := winsD) (B := fun c => c.length = q ∧ WsOk c 20) (fun d h => h) h
      rw [List.filter_eq_self.mpr (fun _ _ => rfl), List.length_range, hsu] at h2
      exact ⟨cols, by rw [h1], h2, h3⟩
    obtain ⟨d, ⟨cols, rfl, hcl, hcs⟩, hd10⟩ := p7
    have g47 := g46.trans g7
    have hmx : ∀ {v u : V} {N' : Hp}, Ex (un Mi M4) N' → True := fun _ => trivial
    have g57 : Gr (un Mi M4) C4 N7 C7 := (g5.trans g6).trans g7
    have hN7l : N7 l = none := g57.out hMl4 hC4
    have hC7l := g57.ext _ _ hC4
    have hxl : xs.length = i := by rw [dps_len hde, List.length_map, hrl]
    refine r_app (l := l) (xs := xs) (N := N7) (P := mD K (rwD ⟨ns[i], ms.take k, rowsOf cols q⟩)) (jv 5) (j_tup (K := K) (ja_consD ((jv 6).val (.str _)) (ja_consD (j_tupleD (j_var 8 (P := mD K _) (dp_mono g7.up hd8)) B.tuple (by show (strsD (ms.take k)).length ≤ 100000; omega)) (ja_consD (d := .list ((rowsOf cols q).map winsD)) (J.imp (P := mNL N7 K (F2 (fun (k2 : Nat) d => d = winsD (cols.map fun c => c.getD k2 (0, none))) ((List.range q).filter fun _ => true))) ?_ fun v M' g p => mNL_D p fun es h => ?_) ja_nilD))) (by show 3 ≤ 100000; decide)) g47.sub hN7l hC7l (by have := hns.1; omega) fun v8 N8 C8 g8 hN8 p8 => ?_
    · refine j_lc (own := [("_law_k", 14)]) (fun (k2 : Nat) d => d = winsD (cols.map fun c => c.getD k2 (0, none))) (fun _ => true) 14 rfl hN (pi_range1 rfl B.range pA) (ji_range (n := q) (ja_cons (jv 9) ja_nil) rfl (by omega)) (by omega) (blk_by (N := ["_law_rng_here", "_law_modules", "_law_versions", "_law_loose", "_law_names_here", "_law_found", "_law_name_here", "_law_others", "_law_uses", "_law_many", "_law_columns", "_law_other", "_law_used", "_law_column", "_law_k"]) (sc := defScope (top 56)) (by decide +kernel)) (fun s0 H0 C0 cl fp => pg_name hN rfl (Or.inr rfl)) (fun x => rfl) fun k2 x M2 hk2 eM2 hx => ⟨fun s0 H0 C0 cl fp => jts_nil, fun _ s0 H0 C0 cl fp => ?_⟩
      have hx' : x = V.int (k2 : Nat) := hx
      subst hx'
      refine J.imp (P := mNL M2 K (F2 (fun (j2 : Nat) d => d = wD ((cols.getD j2 []).getD k2 (0, none))) ((List.range (cols.map winsD).length).filter fun _ => true))) ?_ fun v M' g p => ?_
      · refine j_lc (own := [("_law_column", 13)]) (I := fun j => mR K fun d => (cols.map winsD)[j]? = some d) (fun (j2 : Nat) d => d = wD ((cols.getD j2 []).getD k2 (0, none))) (fun _ => true) 13 rfl hN (pi_list pE) (ji_list (j_var 10 (P := mD K _) (dp_mono eM2 hd10))) (by rw [List.length_map]; omega) (blk_by (N := ["_law_rng_here", "_law_modules", "_law_versions", "_law_loose", "_law_names_here", "_law_found", "_law_name_here", "_law_others", "_law_uses", "_law_many", "_law_columns", "_law_other", "_law_used", "_law_column", "_law_k"]) (sc := { kind := .function, names := [(".0", .local), ("_law_k", .cell), ("_law_columns", .cell)], isGenerator := false, isCoroutine := false }) (by decide +kernel)) (fun s0 H0 C0 cl fp => pg_name hN rfl (Or.inl rfl)) (fun x => rfl) fun j2 x M3 hj2 eM3 hx => ⟨fun s0 H0 C0 cl fp => jts_nil, fun _ s0 H0 C0 cl fp => ?_⟩
        obtain ⟨d, h1, h2⟩ := hx
        have hj : j2 < cols.length := by rw [List.length_map] at hj2; exact hj2
        rw [List.getElem?_map, List.getElem?_eq_getElem hj] at h1
        have h1' : winsD cols[j2] = d := Option.some.inj h1
        subst h1'
        have hcj := hcs _ (List.getElem_mem hj)
        have e : cols.getD j2 [] = cols[j2] := by rw [List.getD_eq_getElem?_getD, List.getElem?_eq_getElem hj] <;> rfl
        rw [e]
        have hk3 : k2 < (cols[j2]).length := by rw [hcj.1]; exact hk2
        have e2 : (cols[j2]).getD k2 (0, none) = (cols[j2])[k2] := by rw [List.getD_eq_getElem?_getD, List.getElem?_eq_getElem hk3] <;> rfl
        rw [e2]
        refine J.imp (P := mD K (wD (cols[j2])[k2])) (j_ixL (ds := (cols[j2]).map wD) (j_var 13 (P := mD K (winsD cols[j2])) h2) (jv 14) (atI_nat (by rw [List.getElem?_map, List.getElem?_eq_getElem hk3]; rfl))) fun y M4 g p => ⟨_, rfl, p⟩
      · refine mNL_R p fun ds h => ?_
        rw [F2.map h, List.filter_eq_self.mpr (fun _ _ => rfl), List.length_map]
        show PyData.list _ = PyData.list ((cols.map fun c => c.getD k2 (0, none)).map wD)
        refine congrArg _ ?_
        rw [List.map_map]
        refine List.ext_getElem (by rw [List.length_map, List.length_range, List.length_map]) fun n h1 h2 => ?_
        have hn : n < cols.length := by rw [List.length_map] at h2; exact h2
        rw [List.getElem_map, List.getElem_range, List.getElem_map, List.getD_eq_getElem?_getD (l := cols), List.getElem?_eq_getElem hn]
        rfl
    · rw [F2.map h, List.filter_eq_self.mpr (fun _ _ => rfl)]
      unfold rowsOf
      rw [List.map_map]
      rfl
    have g48 := g47.trans g8
    have g58 : Gr (un Mi M4) C4 N8 C8 := g57.trans g8
    have hnil : ns.take (i + 1) = ns.take i ++ [ns[i]] := by rw [List.take_succ, List.getElem?_eq_getElem hi']; rfl
    refine r_nil ⟨N8, xs ++ [v8], rs ++ [⟨ns[i], ms.take k, rowsOf cols q⟩], some (.str ns[i]), _, _, _, _, g48.mut hCl hN8, eNi.trans (gm2.up.trans g58.up), e14.trans g58.up, hN8, upd_same, by rw [List.map_append]; exact dps_snoc (dps_mono (gm2.up.trans g58.up) hde) p8, by rw [List.map_append, hrn, hnil]; rfl, fun r2 hr2 => ?_, by rw [List.length_append, hrl]; rfl, rfl⟩
    rcases List.mem_append.mp hr2 with hr2 | hr2
    · exact hro r2 hr2
    · have hr2' : r2 = ⟨ns[i], ms.take k, rowsOf cols q⟩ := by simpa using hr2
      subst hr2'
      have hnd : (ns.filter fun x => x != ns[i]).Nodup := hns.2.1.sublist List.filter_sublist
      have hmn : ms.Nodup := hpm.nodup_iff.mpr hnd
      refine ⟨hmn.sublist (List.take_sublist k ms), fun n hn => ?_, ?_, fun v hv => ?_, fun j hj => ?_⟩
      · have h1 := (hpm.mem_iff).mp (List.mem_of_mem_take hn)
        obtain ⟨h2, h3⟩ := List.mem_filter.mp h1
        exact ⟨h2, by simpa using h3⟩
      · show (rowsOf cols q).length ≤ 4
        unfold rowsOf
        rw [List.length_map, List.length_range]
        omega
      · obtain ⟨k2, _, rfl⟩ := List.mem_map.mp hv
        rw [List.length_map, hcl]
      · have hj' : j < cols.length := by rw [hcl]; exact hj
        show WsOk ((rowsOf cols q).map _) 20
        rw [rowsOf_col hj' fun c hc => (hcs c hc).1]
        exact (hcs _ (List.getElem_mem hj')).2
  · obtain ⟨Mi, xs, rs, o6, o7, o8, o9, o10, gi, eNi, e1i, hMl2, hC3, hde, hrn, hro, hrl, rfl⟩ := hP3
    have hrn' : rs.map (·.nm) = ns := by rw [hrn, hnl, List.take_length]
    have g5 : Gr M C (upd Mi l (.lst xs)) C3 := gi.take hC3 hCl (fresh_back eM hCl)
    refine r_ret (N := upd Mi l (.lst xs)) (jv 5) g5.sub fun v N' C' g p => ?_
    have p' : v = V.ref l := p
    subst p'
    refine rt _ N' C' (g5.trans g) (hP _ _ ⟨l, xs, ns, rs, m, rfl, fresh_back eM hCl, g.up _ _ upd_same, dps_mono (fun b u hb => ?_) hde, hns, hm1, hm3, hrn', hro⟩)
    have hbl : b ≠ l := ne_of_none hb hMl2
    rw [del_ne hbl]
    exact g.up _ _ (by rw [upd_ne hbl]; exact hb)
end
end Gs

set_option Elab.async false
set_option linter.all false
set_option maxRecDepth 100000
set_option maxHeartbeats 4000000
/-! GsCm: dict and set comprehensions over promises. -/
namespace Gs
open PySem PySem.Spec PyProof.Rows L2 Evl
/-- what stands at D after i turns, by the part -/
structure OB where
  p : Addr → Hp → Nat → HO → Prop
  mono : ∀ {D M M' i o}, Ex M M' → p D M i o → p D M' i o
  nt : ∀ {D M i o}, p D M i o → ∀ xs, o ≠ .tup xs
theorem del_ex {H H' : Hp} (e : Ex H H') (D : Addr) : Ex (L2.del H D) (L2.del H' D) := fun b u hb => by
  by_cases q : b = D
  · subst q; rw [del_same] at hb; cases hb
  · rw [del_ne q] at hb ⊢; exact e _ _ hb
/-- a new object of that kind -/
def mOb (N : Hp) (B : OB) (n : Nat) : MP := ⟨fun v H => ∃ D o, v = .ref D ∧ N D = none ∧ H D = some o ∧ B.p D (L2.del H D) n o, fun e ⟨D, o, h1, h2, h3, h4⟩ => ⟨D, o, h1, h2, e _ _ h3, B.mono (del_ex e D) h4⟩⟩
/-- one turn's put -/
def TbOk (B : OB) (tb : TB) (σ : L2.St) (M : Hp) (i : Nat) : Prop := ∀ (D : Addr) (o : HO) (C : Hp), Ex M C → M D = none → C D = some o → B.p D M i o → ∀ Nx : Hp → Prop,
  (∀ M' o' C', Gr M C M' C' → B.p D M' (i + 1) o' → Nx (upd C' D o')) → tb D σ C Nx
theorem ep_cm (B : OB) {o0 : Addr → HO} {wi : TI} {g : TG} {tt : TT} {tb : TB} {vs : List Nat} {σ : L2.St} {N : Hp} {n : Nat} {I : Nat → MP} (hw : JI wi σ N n I) (h0 : ∀ D M, Ex N M → B.p D M 0 (o0 D))
    (body : ∀ i x M, i < n → Ex N M → (I i).p x M → ∀ C, Ex M C → g x (wipe σ vs) C fun σ2 C2 => wipe σ2 vs = wipe σ vs ∧ ∃ M2, Gr M C M2 C2 ∧ EvT tt σ2 M2 true ∧ TbOk B tb σ2 M2 i)
    (gm : ∀ x s C (Q Q' : L2.St → Hp → Prop), (∀ a b, Q a b → Q' a b) → g x s C Q → g x s C Q') : EvP (tCm o0 wi g tt tb vs) σ N (mOb N B n) := fun C eC Q q => hw C eC _ fun Jt N1 C1 gr wk D hD => by
  have hN1 : N1 D = none := fresh_back gr.sub hD
  let Pv : Nat → Hp → Prop := fun i H => ∃ (Mi : Hp) (o : HO), Gr N1 C1 Mi H ∧ Mi D = none ∧ H D = some o ∧ B.p D Mi i o
  refine ⟨fun i m H => i + m = n ∧ Pv i H, ⟨n, Nat.zero_add n, N1, o0 D, (Gr.refl gr.sub).grow (Ex.new hD), hN1, upd_same, h0 D N1 gr.up⟩, fun i m H ⟨him, Mi, o, gi, hMi, hH, hB⟩ => ?_⟩
  have eN1 : Ex N1 H := gi.up.trans gi.sub
  cases m with
  | zero =>
    refine .inl ⟨?_, ?_⟩
    · have hi : i = n := by omega
      subst hi
      exact wk.stop H eN1
    · have hi : i = n := by omega
      subst hi
      have gT : Gr N C (upd Mi D o) H := (gr.trans gi).take hH (fresh_back gr.ext hD) (fresh_back gr.up hN1)
      refine q (.ref D) (upd Mi D o) H gT ⟨D, o, rfl, fresh_back gr.up hN1, upd_same, B.mono (fun b u hb => ?_) hB⟩
      have hbD : b ≠ D := ne_of_none hb hMi
      rw [del_ne hbD, upd_ne hbD]
      exact hb
  | succ m =>
    refine .inr ⟨wk.go i H (by omega) eN1, fun H' => Pv (i + 1) H', fun H' h => ⟨m, by omega, by omega, h⟩, fun x H' y => ?_⟩
    obtain ⟨M, gM, hp⟩ := wk.yld i H x H' (by omega) eN1 y
    obtain ⟨g1, e1⟩ := gM.more gi.up gi.sub
    refine gm _ _ _ _ _ (fun σ2 C2 hh => ?_) (body i x (un Mi M) (by omega) ((gr.up.trans gi.up).trans g1.up) ((I i).mono e1 hp) H' g1.sub)
    obtain ⟨hwp, M2, g2, ht, he⟩ := hh
    refine ⟨hwp, ht C2 g2.sub _ fun C3 e3 => iteT ?_⟩
    have g3 : Gr Mi H M2 C3 := g1.trans (g2.grow e3)
    have h2D : M2 D = none := g3.outO hMi hH (B.nt hB)
    refine he D o C3 g3.sub h2D (g3.ext _ _ hH) (B.mono g3.up hB) _ fun M4 o' C4 g4 hB4 => ?_
    have g5 : Gr Mi H M4 C4 := g3.trans g4
    have h4D : M4 D = none := g5.outO hMi hH (B.nt hB)
    exact ⟨M4, o', (gi.trans g5).mut hD h4D, h4D, upd_same, hB4⟩
/-! ### sets of keys -/
def obS (P : Program) (w : World) (ns : List PySem.Str) : OB := ⟨fun D _ i o => ∃ S, o = SetK P w D S i ∧ ∀ k, S k = true ↔ ∃ z ∈ ns.take i, k = .inr z, fun _ h => h, fun h xs z => by
  obtain ⟨S, rfl, _⟩ := h
  have z' : HO.ext _ = HO.tup xs := z
  cases z'⟩
theorem tbS_ok {P : Program} {w : World} {te : TE} {σ : L2.St} {M : Hp} {i : Nat} {ns : List PySem.Str} {z : PySem.Str} (hz : ns[i]? = some z) (nd : ns.Nodup) (hi : i < 1000) (h : Ev te σ M (.str z)) : TbOk (obS P w ns) (tbS P w te) σ M i := fun D o C eC hM hC hB Nx k => by
  obtain ⟨S, rfl, hS⟩ := hB
  refine h C eC _ fun C1 e1 => ⟨D, .inr z, S, i, rfl, rfl, e1 _ _ hC, (by have : scanBound = 4096 := rfl; omega), ?_⟩
  have hz' : S (.inr z) = false := by
    cases hs : S (.inr z) with
    | false => rfl
    | true =>
      obtain ⟨y, hy, e⟩ := (hS _).mp hs
      have e' : z = y := Sum.inr.inj e
      subst e'
      obtain ⟨j, hj2⟩ := List.getElem?_of_mem hy
      have hj3 : j < i := by
        have := (List.getElem?_eq_some_iff.mp hj2).1
        rw [List.length_take] at this
        omega
      rw [List.getElem?_take_of_lt hj3] at hj2
      have := (List.getElem?_inj (List.getElem?_eq_some_iff.mp hz).1 nd).mp (hz.trans hj2.symm)
      omega
  refine k M _ C1 (Gr.of_ex eC e1) ⟨_, by rw [hz']; rfl, fun k => ?_⟩
  rw [Bool.or_eq_true, hS, decide_eq_true_eq, List.take_succ, hz]
  constructor
  · rintro (⟨y, hy, rfl⟩ | rfl)
    · exact ⟨y, List.mem_append_left _ hy, rfl⟩
    · exact ⟨z, List.mem_append_right _ (List.mem_singleton.mpr rfl), rfl⟩
  · rintro ⟨y, hy, rfl⟩
    rcases List.mem_append.mp hy with hy | hy
    · exact .inl ⟨y, hy, rfl⟩
    · have : y = z := by simpa using hy
      subst this
      exact .inr rfl
/-! ### dicts of one value -/
def obV (ks : List Key) (v : V) : OB := ⟨fun _ _ i o => ∃ kvs, o = .dK kvs ∧ kvs.length ≤ i ∧ ∀ k ∈ ks.take i, valV kvs k = some v, fun _ h => h, fun h xs z => by
  obtain ⟨_, rfl, _⟩ := h; cases z⟩
theorem tbV_ok {tk tv : TE} {σ : L2.St} {M : Hp} {i : Nat} {ks : List Key} {k : Key} {v : V} (hk : ks[i]? = some k) (hi : i < 1000) (h : Ev tk σ M (kV k)) (hv : Ev tv σ M v) : TbOk (obV ks v) (tbD tk tv) σ M i := fun D o C eC hM hC hB Nx q => by
  obtain ⟨kvs, rfl, hl, hB⟩ := hB
  refine h C eC _ fun C1 e1 => hv C1 (eC.trans e1) _ fun C2 e2 => ⟨_, .k ((e1.trans e2) _ _ hC) (sz_lt (by omega)), q M _ C2 (Gr.of_ex eC (e1.trans e2)) ⟨_, rfl, by have := length_putK kvs k v; omega, fun k' hk' => ?_⟩⟩
  rw [valV_put]
  rw [List.take_succ, hk] at hk'
  by_cases e : k' = k
  · rw [if_pos e]
  · rw [if_neg e]
    rcases List.mem_append.mp hk' with h | h
    · exact hB k' h
    · exact absurd (by simpa using h) e
/-! ### dicts of new objects -/
section
variable {κ : Type} [DecidableEq κ]
def RefsOk (B : Hp) (kvs : List (κ × V)) (adr : κ → Addr) (ob : HO) (M : Hp) (done : List κ) : Prop := (∀ k ∈ done, valV kvs k = some (.ref (adr k)) ∧ M (adr k) = some ob ∧ B (adr k) = none) ∧ ∀ k ∈ done, ∀ k' ∈ done, k ≠ k' → adr k ≠ adr k'
theorem RefsOk.mono {B : Hp} {kvs : List (κ × V)} {adr : κ → Addr} {ob : HO} {M M' : Hp} {done : List κ} (h : RefsOk B kvs adr ob M done) (e : Ex M M') : RefsOk B kvs adr ob M' done := ⟨fun k hk => ⟨(h.1 k hk).1, e _ _ (h.1 k hk).2.1, (h.1 k hk).2.2⟩, h.2⟩
theorem RefsOk.put {B : Hp} {kvs : List (κ × V)} {adr : κ → Addr} {ob : HO} {M M' : Hp} {done : List κ} (h : RefsOk B kvs adr ob M done) (e : Ex M M') {k : κ} {q : Addr} (hq : M q = none) (hq' : M' q = some ob) (hB : B q = none) : RefsOk B (putK kvs k (.ref q)) (fun j => if j = k then q else adr j) ob M' (done ++ [k]) := by
  have key : ∀ j ∈ done ++ [k], j ≠ k → j ∈ done := fun j hj hne => by
    rcases List.mem_append.mp hj with h | h
    · exact h
    · exact absurd (by simpa using h) hne
  have hne : ∀ j ∈ done, adr j ≠ q := fun j hj z => by
    have := (h.1 j hj).2.1
    rw [z, hq] at this
    cases this
  refine ⟨fun j hj => ?_, fun j hj j' hj' hn => ?_⟩
  · rw [valV_put]
    by_cases z : j = k
    · rw [if_pos z]; exact ⟨by simp [z], by simp [z, hq'], by simp [z, hB]⟩
    · rw [if_neg z]; simp only [if_neg z]
      exact ⟨(h.1 j (key j hj z)).1, e _ _ (h.1 j (key j hj z)).2.1, (h.1 j (key j hj z)).2.2⟩
  · by_cases z : j = k
    · by_cases z' : j' = k
      · exact absurd (z.trans z'.symm) hn
      · simp only [if_pos z, if_neg z']
        exact (hne j' (key j' hj' z')).symm
    · by_cases z' : j' = k
      · simp only [if_neg z, if_pos z']
        exact hne j (key j hj z)
      · simp only [if_neg z, if_neg z']
        exact h.2 j (key j hj z) j' (key j' hj' z') hn
end
def obR (B : Hp) (ks : List Key) (ob : HO) : OB := ⟨fun _ M i o => ∃ kvs adr, o = .dK kvs ∧ kvs.length ≤ i ∧ RefsOk B kvs adr ob M (ks.take i), fun e ⟨kvs, adr, h1, h2, h3⟩ => ⟨kvs, adr, h1, h2, h3.mono e⟩, fun h xs z => by
  obtain ⟨_, _, rfl, _⟩ := h; cases z⟩
/-- a new object, one of these -/
def mNew (N : Hp) (ob : HO) : MP := ⟨fun v H => ∃ q, v = .ref q ∧ N q = none ∧ H q = some ob, fun e ⟨q, h1, h2, h3⟩ => ⟨q, h1, h2, e _ _ h3⟩⟩
theorem tbR_ok {B : Hp} {tk tv : TE} {σ : L2.St} {M : Hp} {i : Nat} {ks : List Key} {k : Key} {ob : HO} (hB0 : Ex B M) (hk : ks[i]? = some k) (hi : i < 1000) (h : Ev tk σ M (kV k)) (hv : EvP tv σ M (mNew M ob)) : TbOk (obR B ks ob) (tbD tk tv) σ M i := fun D o C eC hM hC hB Nx q => by
  obtain ⟨kvs, adr, rfl, hl, hB⟩ := hB
  refine h C eC _ fun C1 e1 => hv C1 (eC.trans e1) _ fun v M2 C2 g2 ⟨a, hv, ha1, ha2⟩ => ?_
  subst hv
  have g12 : Gr M C M2 C2 := (Gr.of_ex eC e1).trans g2
  have hT : ks.take (i + 1) = ks.take i ++ [k] := by rw [List.take_succ, hk]; rfl
  have hR := hB.put g12.up (k := k) ha1 ha2 (fresh_back hB0 ha1)
  rw [← hT] at hR
  refine ⟨_, .k (g12.ext _ _ hC) (sz_lt (by omega)), q M2 _ C2 g12 ⟨_, _, rfl, by have := length_putK kvs k (.ref a); omega, hR⟩⟩
end Gs

set_option Elab.async false
set_option linter.all false
set_option maxRecDepth 100000
set_option maxHeartbeats 4000000
/-! GsUses: is_row_of_names, check_new_windows. -/
namespace Gs
open PySem PySem.Spec PyProof.Rows L2 Evl
section
variable {X : Cx} {e a : Expr} {σ : L2.St} {N : Hp} {P : MP} {pos : Pos} {m : PySem.Str} {ns : List PySem.Str}
theorem j_niN (ha : J X a σ N (mIs (.str m))) (he : J X e σ N P) (hd : ∀ v M, Ex N M → P.p v M → Dp X.K M v (.tuple (strsD ns)) ∨ Dp X.K M v (.list (strsD ns))) (hm : behindInMarks .NotIn e = false := by first | exact nomark _ | with_unfolding_all rfl) : J X (.Compare a [.NotIn] [e] pos) σ N (mIs (.bl (!decide (m ∈ ns)))) :=
  j_cmpP op_notIn_seq ha he (fun x y M g hx hy => by
    have hx' : x = V.str m := hx
    subst hx'
    rw [← inV_strs]
    rcases hd y M g hy with h | h
    · obtain ⟨b, xs, rfl, s, al⟩ := dp_tup h
      have := dps_strs_inv al
      subst this
      exact rp_rv (rv_niT s rfl (flat_strs ns)) rfl
    · obtain ⟨b, xs, rfl, s, al⟩ := dp_lst h
      have := dps_strs_inv al
      subst this
      exact rp_rv (rv_niL s rfl (flat_strs ns)) rfl) hm
end
section
variable {P : Program} {w : World} {K : PySem.W.Frag} {mg : PySem.Str → Option Value} {base : Heap}
def preRowN (K : PySem.W.Frag) (vs : List V) (N : Hp) (P : MP) : Prop := ∃ (v : V) (m : PySem.Str) (ns : List PySem.Str), vs = [v, .str m] ∧ Dp K N v (.tuple (strsD ns)) ∧ ns.Nodup ∧ (∀ n ∈ ns, NameOk n) ∧ m ∉ ns ∧ ns.length ≤ 3 ∧ P = mIs (.bl true)
theorem ok_rowN (F : DF K mg "is_row_of_names" (top 41)) (B : Bt mg) (c1 : Cl P w K mg base 1 "is_name" preName) : Cl P w K mg base 2 "is_row_of_names" (preRowN K) := by
  refine cl_of (N := ["value", "module", "name"]) (ps := ["value", "module"]) F (by decide +kernel) (fun vs M Pm h => ?_) (fun _ _ _ _ _ _ us hl => match us, hl with | [_, _], _ => rfl) fun f cdv A outer s C E vs M Pm D hr eM h rt nx => ?_
  · obtain ⟨v, m, ns, rfl, _⟩ := h; rfl
  obtain ⟨v, m, ns, rfl, hd, hnd, hok, hmn, hl, rfl⟩ := h
  have hN : (["value", "module", "name"] : List PySem.Str).Nodup := by decide
  have hsl : (strsD ns).length = ns.length := List.length_map _
  have at_ : ∀ i d, (strsD ns)[i]? = some d → ∃ z, ns[i]? = some z ∧ d = PyData.str z := fun i d h => by
    unfold strsD at h
    rw [List.getElem?_map] at h
    cases e : ns[i]? with
    | none => rw [e] at h; cases h
    | some z => rw [e] at h; exact ⟨z, e, (Option.some.inj h).symm⟩
  refine r_skip (N := M) (JW.t (jw_orF (jt_notF (jt_val (j_isi (b := true) (vt := "tuple") (P := mD K (.tuple (strsD ns))) (j_var 0 hd) (fun v M g p => tyx_dtup p) B.tuple PyProof.Rows.Boot.«tuple» (by decide +kernel) B.isi))) (jw_or1 (jt_notF (jt_val ?_))))) eM fun C1 e1 => ?_
  · refine j_allT (idx := (List.range (strsD ns).length).filter fun _ => true) (E := fun _ d => d = .bool true) rfl ?_ (fun _ _ _ h => h) B.all
    refine j_lc (own := [("name", 2)]) (I := fun j => mR K fun d => (strsD ns)[j]? = some d) (fun _ d => d = .bool true) (fun _ => true) 2 rfl hN (pi_tup pE) (ji_tup (j_var 0 (P := mD K _) hd)) (by omega) (blk_by (N := ["value", "module", "name"]) (sc := defScope (top 41)) (by decide +kernel)) (fun s0 H0 C0 cl fp => pg_name hN rfl (Or.inl rfl)) (fun x => rfl) fun i x M2 hi eM2 hx => ⟨fun s0 H0 C0 cl fp => jts_nil, fun _ s0 H0 C0 cl fp => ?_⟩
    obtain ⟨d, h1, h2⟩ := hx
    obtain ⟨z, hz, rfl⟩ := at_ i d h1
    obtain rfl := dp_str h2
    refine J.imp (P := mIs (.bl true)) (j_call c1 (by exact hr) (ja_cons (P := mIs (.str z)) (jv 2) ja_nil) fun vs M' g p => ?_) fun y M3 g p => ?_
    · obtain ⟨y, rfl, hy⟩ := la1 p
      have hy' : y = V.str z := hy
      subst hy'
      exact ⟨z, rfl, hok z (List.mem_of_getElem? hz), rfl⟩
    · have p' : y = V.bl true := p
      subst p'
      exact ⟨_, rfl, .bl true⟩
  refine r_ret (N := M) (P := mIs (.bl true)) (j_andT ?_ (j_one (J.is (v := .bl (!decide (m ∈ ns))) ?_ (by rw [decide_eq_false hmn]; rfl)))) (eM.trans e1) fun v N' C' g p => rt v N' C' ((Gr.of_ex eM e1).trans g) p
  refine (j_cmp (z := .bl (((strsD ns).length : Int) == ((strsD ns).length : Int))) op_eq (j_cb1 (P := mOb M (obS P w ns) (strsD ns).length) (P2 := mIs (.int (strsD ns).length)) call_lenK B.len PyProof.Rows.Boot.«len» ?_ fun v M' g p => ?_) (j_lenT (j_var 0 (P := mD K _) hd) B.len) rv_eqI).is (by rw [beq_self_eq_true])
  · refine j_of (pe_scK (own := [("name", 2)]) (g := gName 2) rfl hN (pi_tup pE) (blk_by (N := ["value", "module", "name"]) (sc := defScope (top 41)) (by decide +kernel)) (fun s0 H0 C0 cl fp => pg_name hN rfl (Or.inl rfl)) pTsb pEb) (ep_cm (obS P w ns) (ji_tup (j_var 0 (P := mD K _) hd)) (fun D M' e => ⟨fun _ => false, rfl, fun k => by simp⟩) (fun i x M2 hi eM2 hx C eC => ?_) gm_name)
    obtain ⟨d, h1, h2⟩ := hx
    obtain ⟨z, hz, rfl⟩ := at_ i d h1
    obtain rfl := dp_str h2
    exact ⟨rfl, M2, Gr.refl eC, evt fun s0 H0 C0 cl fp => jts_nil, tbS_ok hz hnd (by omega) (ev_ep (evb (P := mIs (.str z)) fun s0 H0 C0 cl fp => jv 2))⟩
  · obtain ⟨D, o, rfl, _, h3, S, rfl, _⟩ := p
    exact fun C0 eC Q q => ⟨D, S, _, rfl, eC _ _ h3, q _ _ _ (Gr.refl eC) rfl⟩
  · exact j_niN (ns := ns) (jv 1) (j_var 0 (P := mD K _) hd) fun y M' g p => .inl p
def preNewW (K : PySem.W.Frag) (vs : List V) (N : Hp) (P : MP) : Prop := ∃ (v : V) (n : Nat) (ws : List Wn), vs = [v, .int (n : Int)] ∧ Dp K N v (.list (ws.map wD)) ∧ ws.length = n ∧ n ≤ 100 ∧ (∀ q ∈ ws, WinOk q) ∧ P = mIs .non
theorem ok_newW (F : DF K mg "check_new_windows" (top 43)) (B : Bt mg) (c1 : Cl P w K mg base 3 "is_window" (preWin K)) : Cl P w K mg base 4 "check_new_windows" (preNewW K) := by
  refine cl_of (N := ["windows", "count", "position", "window"]) (ps := ["windows", "count"]) F (by decide +kernel) (fun vs M Pm h => ?_) (fun _ _ _ _ _ _ us hl => match us, hl with | [_, _], _ => rfl) fun f cdv A outer s C E vs M Pm D hr eM h rt nx => ?_
  · obtain ⟨v, n, ws, rfl, _⟩ := h; rfl
  obtain ⟨v, n, ws, rfl, hd, rfl, hl, hok, rfl⟩ := h
  have hN : (["windows", "count", "position", "window"] : List PySem.Str).Nodup := by decide
  have hsl : (ws.map wD).length = ws.length := List.length_map _
  refine r_skip (N := M) (JW.t (jw_orF (jt_notF (jt_val (j_isi (b := true) (vt := "list") (P := mD K (.list (ws.map wD))) (j_var 0 hd) (fun v M g p => tyx_dlst p) B.list PyProof.Rows.Boot.«list» (by decide +kernel) B.isi))) (jw_or1 (JT.is (jt_cmp op_ne (j_lenL (j_var 0 (P := mD K _) hd) B.len) (jv 1) rv_neI) (by rw [hsl]; exact bne_self_eq_false _))))) eM fun C1 e1 => ?_
  refine r_for (N := M) (n := (ws.map wD).length) (pi_enum rfl B.enum pA) (ji_enumD (K := K) (ja_cons (j_var 0 (P := mD K _) hd) ja_nil)) (eM.trans e1) (pg_tup rfl (pgs_cons (pg_name (i := 2) hN rfl (Or.inl rfl)) (pgs_cons (pg_name (i := 3) hN rfl (Or.inl rfl)) pgs_nil))) PassesOwn.never rfl
    (fun N2 i σ C2 => ∃ (Mi : Hp) (o2 o3 : Option V), Gr M C Mi C2 ∧ Ex N2 Mi ∧ σ = [some v, some (.int (ws.length : Int)), o2, o3])
    (fun N2 C2 g2 => ⟨N2, none, none, (Gr.of_ex eM e1).trans g2, Ex.refl _, rfl⟩) (fun N2 i σ C2 ⟨Mi, _, _, h1, h2, _⟩ => h2.trans h1.sub) (fun N2 i x σ C2 M2 C3 e2 hi hP2 gM hx => ?_) fun N2 σ C2 e2 ⟨Mi, o2, o3, gi, _, _⟩ => r_nil (nx Mi C2 σ gi rfl)
  obtain ⟨Mi, o2, o3, gi, eNi, rfl⟩ := hP2
  obtain ⟨gm2, em2⟩ := gM.more eNi gi.sub
  obtain ⟨T, y, d, rfl, hd1, hd2, hT⟩ := hx
  have hi' : i < ws.length := by omega
  rw [List.getElem?_map, List.getElem?_eq_getElem hi'] at hd1
  have hd1' : wD ws[i] = d := Option.some.inj hd1
  subst hd1'
  have g3 := gi.trans gm2
  refine gp2 (SqT.of (gm2.sub _ _ (em2 _ _ hT))) ?_
  refine r_skip (N := un Mi M2) (jt_notF (jt_val (j_call c1 hr (ja_cons (P := mD K (wD ws[i])) (j_var 3 (dp_mono em2 hd2)) ja_nil) fun vs M' g p => ?_))) g3.sub fun C4 e4 => r_nil ⟨un Mi M2, _, _, g3.grow e4, eNi.trans gm2.up, rfl⟩
  obtain ⟨y, rfl, hy⟩ := la1 p
  exact ⟨y, ws[i], rfl, hy, hok _ (List.getElem_mem hi'), rfl⟩
end
end Gs

set_option Elab.async false
set_option linter.all false
set_option maxRecDepth 100000
set_option maxHeartbeats 4000000
/-! GsMu: steps that change their own part of the heap alone. -/
namespace Gs
open PySem PySem.Spec PyProof.Rows L2 Evl
def isT (o : HO) : Prop := ∃ xs, o = .tup xs ∨ ∃ ob, o = .frz ob (.tup xs)
/-- N is changed (and nothing else), N' stands in its place -/
structure Mu (N C N' C' : Hp) : Prop where
  sub : Ex N' C'
  frame : ∀ b o, N b = none → C b = some o → C' b = some o
  keep : ∀ b o, isT o → C b = some o → C' b = some o
  dom : ∀ b o, N' b = some o → (∃ u, N b = some u) ∨ C b = none ∨ isT o
/-- F shares nothing with N but tuples -/
def Apart (N F : Hp) : Prop := ∀ b o, F b = some o → N b = none ∨ isT o
theorem Apart.ex {N C N' C' F : Hp} (a : Apart N F) (m : Mu N C N' C') (e : Ex F C) : Ex F C' := fun b o h => by
  rcases a b o h with h' | h'
  · exact m.frame b o h' (e b o h)
  · exact m.keep b o h' (e b o h)
theorem Apart.next {N C N' C' F : Hp} (a : Apart N F) (m : Mu N C N' C') (e : Ex F C) : Apart N' F := fun b o h => by
  cases hn : N' b with
  | none => exact .inl rfl
  | some u =>
    have e' := a.ex m e
    have : u = o := by have h1 := m.sub b u hn; rw [e' b o h] at h1; exact (Option.some.inj h1).symm
    subst this
    rcases m.dom b u hn with ⟨w, hw⟩ | hc | ht
    · rcases a b u h with h' | h'
      · rw [hw] at h'; cases h'
      · exact .inr h'
    · rw [e b u h] at hc; cases hc
    · exact .inr ht
/-- what grows beside it -/
theorem Apart.grow {N C F F' C' : Hp} (a : Apart N F) (e : Ex N C) (g : Gr F C F' C') : Apart N F' := fun b o h => by
  rcases g.dom b o h with ⟨u, hu⟩ | hc | ⟨xs, rfl⟩
  · have : u = o := by have h1 := g.up b u hu; rw [h] at h1; exact (Option.some.inj h1).symm
    subst this
    exact a b u hu
  · exact .inl (fresh_back e hc)
  · exact .inr ⟨xs, .inl rfl⟩
theorem isT_lst {xs : List V} : ¬ isT (.lst xs) := fun ⟨_, h⟩ => by rcases h with h | ⟨_, h⟩ <;> cases h
theorem isT_dK {xs : List (Key × V)} : ¬ isT (.dK xs) := fun ⟨_, h⟩ => by rcases h with h | ⟨_, h⟩ <;> cases h
theorem isT_dT {xs : List (List Key × V)} : ¬ isT (.dT xs) := fun ⟨_, h⟩ => by rcases h with h | ⟨_, h⟩ <;> cases h
theorem sqt_tups {K : PySem.W.Frag} {H H' : Hp} (k : ∀ b o, isT o → H b = some o → H' b = some o) {a : Addr} {xs : List V} (h : SqT K H a xs) : SqT K H' a xs := by
  rcases h with (h | ⟨o, h⟩) | h
  · exact .inl (.inl (k _ _ ⟨xs, .inl rfl⟩ h))
  · exact .inl (.inr ⟨o, k _ _ ⟨xs, .inr ⟨o, rfl⟩⟩ h⟩)
  · exact .inr h
mutual
theorem dp_tups {K : PySem.W.Frag} {H H' : Hp} (k : ∀ b o, isT o → H b = some o → H' b = some o) : ∀ {v : V} {d : PyData}, noL d = true → Dp K H v d → Dp K H' v d
  | _, _, _, .non => .non
  | _, _, _, .bl b => .bl b
  | _, _, _, .int i => .int i
  | _, _, _, .str x => .str x
  | _, _, h, .lst _ _ => by simp [noL] at h
  | _, _, h, .tup s a => .tup (sqt_tups k s) (dps_tups k (by simpa [noL] using h) a)
theorem dps_tups {K : PySem.W.Frag} {H H' : Hp} (k : ∀ b o, isT o → H b = some o → H' b = some o) : ∀ {vs : List V} {ds : List PyData}, noLs ds = true → DpAll K H vs ds → DpAll K H' vs ds
  | _, _, _, .nil => .nil
  | _, _, h, .cons a r => by
    have h' := Bool.and_eq_true_iff.mp (show (noL _ && noLs _) = true by simpa [noLs] using h)
    exact .cons (dp_tups k h'.1 a) (dps_tups k h'.2 r)
end
theorem noL_strs (ns : List PySem.Str) : noL (.tuple (strsD ns)) = true := by
  unfold noL
  exact noLs_all fun d hd => by obtain ⟨z, _, rfl⟩ := List.mem_map.mp hd; rfl
theorem noL_wD (q : Wn) : noL (wD q) = true := by
  obtain ⟨l, h⟩ := q
  cases h <;> rfl
/-- all of C' that may count as N's -/
noncomputable def mx (N C C' : Hp) : Hp := fun b => open Classical in if N b ≠ none ∨ C b = none ∨ ∃ o, C' b = some o ∧ isT o then C' b else none
theorem mx_ex {N C C' : Hp} : Ex (mx N C C') C' := fun b o h => by
  unfold mx at h
  split at h
  · exact h
  · cases h
theorem mx_own {N C C' : Hp} {b : Addr} (h : N b ≠ none) : mx N C C' b = C' b := if_pos (.inl h)
theorem mx_new {N C C' : Hp} {b : Addr} (h : C b = none) : mx N C C' b = C' b := if_pos (.inr (.inl h))
theorem mx_tup {N C C' : Hp} {b : Addr} {o : HO} (t : isT o) (h : C' b = some o) : mx N C C' b = some o := (if_pos (.inr (.inr ⟨o, h, t⟩))).trans h
theorem mx_mu {N C C' : Hp} (frame : ∀ b o, N b = none → C b = some o → C' b = some o) (keep : ∀ b o, isT o → C b = some o → C' b = some o) : Mu N C (mx N C C') C' := ⟨mx_ex, frame, keep, fun b o h => by
  unfold mx at h
  split at h
  · rename_i hb
    rcases hb with hb | hb | ⟨o', h1, h2⟩
    · cases hn : N b with
      | none => exact absurd hn hb
      | some u => exact .inl ⟨u, rfl⟩
    · exact .inr (.inl hb)
    · rw [h1] at h; cases h; exact .inr (.inr h2)
  · cases h⟩
theorem mu_refl {N C : Hp} (e : Ex N C) : Mu N C N C := ⟨e, fun _ _ _ h => h, fun _ _ _ h => h, fun b o h => .inl ⟨o, h⟩⟩
theorem Mu.trans {N C N1 C1 N2 C2 : Hp} (a : Mu N C N1 C1) (b : Mu N1 C1 N2 C2) : Mu N C N2 C2 := ⟨b.sub, fun c o hn hc => by
  have h1 := a.frame c o hn hc
  cases hn1 : N1 c with
  | none => exact b.frame c o hn1 h1
  | some u =>
    have : u = o := by have h2 := a.sub c u hn1; rw [h1] at h2; exact (Option.some.inj h2).symm
    subst this
    rcases a.dom c u hn1 with ⟨w, hw⟩ | h | h
    · rw [hn] at hw; cases hw
    · rw [hc] at h; cases h
    · exact b.keep c u h h1, fun c o t h => b.keep c o t (a.keep c o t h), fun c o h => by
  rcases b.dom c o h with ⟨u, hu⟩ | hc | ht
  · rcases a.dom c u hu with h1 | h1 | h1
    · exact .inl h1
    · exact .inr (.inl h1)
    · have h2 := b.keep c u h1 (a.sub c u hu)
      have h3 := b.sub c o h
      rw [h2] at h3
      cases h3
      exact .inr (.inr h1)
  · cases hC : C c with
    | none => exact .inr (.inl rfl)
    | some u =>
      by_cases hn : N c = none
      · rw [a.frame c u hn hC] at hc; cases hc
      · cases hn' : N c with
        | none => exact absurd hn' hn
        | some w => exact .inl ⟨w, rfl⟩
  · exact .inr (.inr ht)⟩
/-! ### the catalog's part -/
/-- its dicts and lists are different ones -/
structure CatDs (a : CatA) (W : Wr) : Prop where
  wc : a.wd ≠ a.ct
  dc : ∀ m ∈ W.mods, a.d m ≠ a.ct
  dw : ∀ m ∈ W.mods, a.d m ≠ a.wd
  dd : ∀ m ∈ W.mods, ∀ n ∈ W.mods, m ≠ n → a.d m ≠ a.d n
  lr : ∀ m ns n, (m, ns) ∈ W.us → n ∈ ns → a.l m n ≠ a.rc
  ll : ∀ m ns n m' ns' n', (m, ns) ∈ W.us → n ∈ ns → (m', ns') ∈ W.us → n' ∈ ns' → (m, n) ≠ (m', n') → a.l m n ≠ a.l m' n'
/-- the catalog in the whole heap, counted as its part -/
theorem CatAt.into {K : PySem.W.Frag} {Cc : Addr} {N C C' : Hp} {a : CatA} {W W' : Wr} (h0 : CatAt K Cc N a W) (hu : W'.us = W.us) (h : CatAt K Cc C' a W') : CatAt K Cc (mx N C C') a W' := by
  have kt : ∀ b o, isT o → C' b = some o → mx N C C' b = some o := fun b o t h => mx_tup t h
  have hm : W'.mods = W.mods := by unfold Wr.mods; rw [hu]
  have own : ∀ {b : Addr} {o : HO} {x : HO}, N b = some o → C' b = some x → mx N C C' b = some x := fun {b o x} h1 h2 => by
    rw [mx_own (by rw [h1]; exact fun z => by cases z)]; exact h2
  refine ⟨own h0.obj h.obj, ?_, ?_, ?_, ?_, ?_, ?_, ?_⟩
  · obtain ⟨o, kvs, h1, h2⟩ := h.ut
    obtain ⟨o', kvs', h1', _⟩ := h0.ut
    exact ⟨o, kvs, own h1' h1, h2.mono2 fun u kv ⟨e1, e2⟩ => ⟨e1, dp_tups kt (noL_strs _) e2⟩⟩
  · obtain ⟨kvs, h1, h2⟩ := h.wt
    obtain ⟨kvs', h1', _⟩ := h0.wt
    exact ⟨kvs, own h1' h1, h2⟩
  · intro m ns n h1 h2
    obtain ⟨ws, h3, h4⟩ := h.ls m ns n h1 h2
    obtain ⟨ws', h3', _⟩ := h0.ls m ns n (hu ▸ h1) h2
    refine ⟨ws, own h3' h3, dps_tups kt (noLs_all fun d hd => ?_) h4⟩
    obtain ⟨q, _, rfl⟩ := List.mem_map.mp hd
    exact noL_wD q
  · obtain ⟨kvs, h1, h2⟩ := h.ct
    obtain ⟨kvs', h1', _⟩ := h0.ct
    exact ⟨kvs, own h1' h1, h2⟩
  · obtain ⟨kvs, h1, h2⟩ := h.wd
    obtain ⟨kvs', h1', _⟩ := h0.wd
    exact ⟨kvs, own h1' h1, h2⟩
  · intro m hmm
    obtain ⟨kvs, h1, h2⟩ := h.ds m hmm
    obtain ⟨kvs', h1', _⟩ := h0.ds m (hm ▸ hmm)
    exact ⟨kvs, own h1' h1, h2⟩
  · obtain ⟨rs, h1, h2⟩ := h.rc
    obtain ⟨rs', h1', _⟩ := h0.rc
    exact ⟨rs, own h1' h1, h2⟩
/-! ### functions that change their part -/
def spMu (pre : List V → Hp → Hp → (V → Hp → Prop) → Prop) : Sp := fun vs C Q _ => ∃ (N F : Hp) (Pm : V → Hp → Prop), Ex N C ∧ Ex F C ∧ Apart N F ∧ pre vs N F Pm ∧ ∀ v N' C', Mu N C N' C' → Pm v N' → Q v C'
structure ClU (P : Program) (w : World) (K : PySem.W.Frag) (mg : PySem.Str → Option Value) (base : Heap) (k : Nat) (x : PySem.Str) (pre : List V → Hp → Hp → (V → Hp → Prop) → Prop) : Prop where
  ex : ∃ (f : Addr) (fd : FuncData) (ps : List PySem.Str), FnOk P w K mg base L2.CX0 k f fd ps (spMu pre) ∧ mg x = some (.ref f) ∧ PySem.W.keepIn K (.ref f) = true ∧ Binds K fd ps []
structure MtU (P : Program) (w : World) (K : PySem.W.Frag) (mg : PySem.Str → Option Value) (base : Heap) (k : Nat) (C : Addr) (m : PySem.Str) (pre : List V → Hp → Hp → (V → Hp → Prop) → Prop) : Prop where
  ex : ∃ (f : Addr) (fd : FuncData) (ps : List PySem.Str), FnOk P w K mg base L2.CX0 k f fd ps (spMu pre) ∧ Meth K C m f ∧ Binds K fd ps []
end Gs

set_option Elab.async false
set_option linter.all false
set_option maxRecDepth 100000
set_option maxHeartbeats 4000000
/-! GsWdr: Catalog.withdraw. -/
namespace Gs
open PySem PySem.Spec PyProof.Rows L2 Evl
section
variable {P : Program} {w : World} {K : PySem.W.Frag} {mg : PySem.Str → Option Value} {base : Heap} {x qual : PySem.Str} {st : Stmt} {N ps : List PySem.Str} {k : Nat} {pre : List V → Hp → Hp → (V → Hp → Prop) → Prop} {Cc : Addr}
theorem mtu_of (F : MF K Cc x qual st) (S : C8.scC N ps (defScope st) = true) (len : ∀ vs M F Pm, pre vs M F Pm → vs.length = ps.length)
    (hb : ∀ (kV doc pm : Value) (an : Option Addr) (cdv ct : Value) (us : List Value), us.length = ps.length → bindArgs (PySem.W.fnOf x qual (defArgs st) (defBody st) (defScope st) .none kV doc pm an cdv ct) ⟨us, []⟩ = pure (ps.zip us))
    (body : ∀ (f : Addr) (cdv : Value) (A : Around) (outer : List Env) (s : Shared) (C : Hp) (E : XK) (vs : List V) (M G : Hp) (Pm : V → Hp → Prop) (D : Ends), Room k (cxN P w K mg base N qual st f cdv A outer s C E).A → Ex M C → Ex G C → Apart M G → pre vs M G Pm → (∀ v N' C', Mu M C N' C' → Pm v N' → D.rt v C') → (∀ N' C' σ', Mu M C N' C' → Pm .non N' → D.nx σ' C') →
      tR (cxN P w K mg base N qual st f cdv A outer s C E) (defBody st) D (start N vs) C) : MtU P w K mg base (k + 1) Cc x pre := by
  obtain ⟨f, fd, F1, hm⟩ := F
  refine ⟨f, fd, ps, fnok_of F1 S (fun vs C Q E h => ?_) (fun cdv A outer s C E vs Q hr hsp => ?_), hm, F1.binds hb⟩
  · obtain ⟨M, G, Pm, _, _, _, hp, _⟩ := h
    exact len vs M G Pm hp
  · obtain ⟨M, G, Pm, eM, eG, ap, hp, q⟩ := hsp
    exact body f cdv A outer s C E vs M G Pm _ hr eM eG ap hp q fun N' C' σ' g p => q .non N' C' g p
theorem clu_of (F : DF K mg x st) (S : C8.scC N ps (defScope st) = true) (len : ∀ vs M F Pm, pre vs M F Pm → vs.length = ps.length)
    (hb : ∀ (kV doc pm : Value) (an : Option Addr) (cdv ct : Value) (us : List Value), us.length = ps.length → bindArgs (PySem.W.fnOf x x (defArgs st) (defBody st) (defScope st) .none kV doc pm an cdv ct) ⟨us, []⟩ = pure (ps.zip us))
    (body : ∀ (f : Addr) (cdv : Value) (A : Around) (outer : List Env) (s : Shared) (C : Hp) (E : XK) (vs : List V) (M G : Hp) (Pm : V → Hp → Prop) (D : Ends), Room k (cxN P w K mg base N x st f cdv A outer s C E).A → Ex M C → Ex G C → Apart M G → pre vs M G Pm → (∀ v N' C', Mu M C N' C' → Pm v N' → D.rt v C') → (∀ N' C' σ', Mu M C N' C' → Pm .non N' → D.nx σ' C') →
      tR (cxN P w K mg base N x st f cdv A outer s C E) (defBody st) D (start N vs) C) : ClU P w K mg base (k + 1) x pre := by
  obtain ⟨f, fd, F1, hm⟩ := F
  refine ⟨f, fd, ps, fnok_of F1 S (fun vs C Q E h => ?_) (fun cdv A outer s C E vs Q hr hsp => ?_), hm, F1.kp, F1.binds hb⟩
  · obtain ⟨M, G, Pm, _, _, _, hp, _⟩ := h
    exact len vs M G Pm hp
  · obtain ⟨M, G, Pm, eM, eG, ap, hp, q⟩ := hsp
    exact body f cdv A outer s C E vs M G Pm _ hr eM eG ap hp q fun N' C' σ' g p => q .non N' C' g p
end
theorem ne_ob {C : Hp} {x y : Addr} {o1 o2 : HO} (h1 : C x = some o1) (h2 : C y = some o2) (h : o1 ≠ o2) : x ≠ y := fun z => by
  subst z
  rw [h1] at h2
  exact h (Option.some.inj h2)
/-- the version is withdrawn -/
def wdW (W : Wr) (m : PySem.Str) (i : Int) : Wr := { W with wd := fun n => if n = m then i :: W.wd n else W.wd n }
def RecLe (N : Hp) (a : CatA) (k : Nat) : Prop := ∃ rs, N a.rc = some (.lst rs) ∧ rs.length ≤ k
def preWdr (K : PySem.W.Frag) (Cc : Addr) (vs : List V) (N G : Hp) (Pm : V → Hp → Prop) : Prop := ∃ (a : CatA) (W : Wr) (m : PySem.Str) (i k : Nat), vs = [.ref a.c, .str m, .int (i : Int)] ∧ CatAt K Cc N a W ∧ CatDs a W ∧ WOk W ∧ m ∈ W.mods ∧ ((i : Int) ∈ W.there m) ∧ RecLe N a k ∧ k < 900 ∧ (W.wd m).length ≤ 900 ∧ ∀ N', CatAt K Cc N' a (wdW W m i) → RecLe N' a (k + 1) → Pm .non N'
section
variable {P : Program} {w : World} {K : PySem.W.Frag} {mg : PySem.Str → Option Value} {base : Heap} {Cc : Addr}
/-- the catalog after a dict of withdrawn versions and the record were changed -/
theorem CatAt.wdr' {C C' : Hp} {a : CatA} {W : Wr} (h : CatAt K Cc C a W) (ds : CatDs a W) {m : PySem.Str} {i : Int} (hm : m ∈ W.mods) (fr : ∀ b o, b ≠ a.d m → b ≠ a.rc → C b = some o → C' b = some o) {kvs : List (Key × V)} {rs : List V} (hk0 : C (a.d m) = some (.dK kvs)) (hk : C' (a.d m) = some (.dK (putK kvs (.inl i) (.bl true)))) (hr : C' a.rc = some (.lst rs)) (hrl : rs.length ≤ 1000)
    (hl : kvs.length ≤ (W.wd m).length) (hi : ∀ j : Int, (valV kvs (.inl j)).isSome = decide (j ∈ W.wd m)) : CatAt K Cc C' a (wdW W m i) := by
  obtain ⟨rs0, hr0, _⟩ := h.rc
  have f1 : ∀ {b : Addr} {o : HO}, C b = some o → (∀ x, o ≠ .dK x) → (∀ x, o ≠ .lst x) → C' b = some o := fun {b o} hb h1 h2 => fr b o (ne_ob hb hk0 (h1 _)) (ne_ob hb hr0 (h2 _)) hb
  have ft : ∀ b o, isT o → C b = some o → C' b = some o := fun b o t hb => f1 hb (fun x z => isT_dK (z ▸ t)) fun x z => isT_lst (z ▸ t)
  have fd : ∀ {b : Addr} {x : List (Key × V)}, C b = some (.dK x) → b ≠ a.d m → C' b = some (.dK x) := fun {b x} hb h1 => fr b _ h1 (ne_ob hb hr0 fun z => by cases z) hb
  refine ⟨f1 h.obj (fun _ z => (by cases z)) (fun _ z => (by cases z)), ?_, ?_, ?_, ?_, ?_, ?_, ⟨rs, hr, hrl⟩⟩
  · obtain ⟨o, kvs, h1, h2⟩ := h.ut
    exact ⟨o, kvs, f1 h1 (fun _ z => (by cases z)) (fun _ z => (by cases z)), h2.mono2 fun u kv ⟨e1, e2⟩ => ⟨e1, dp_tups ft (noL_strs _) e2⟩⟩
  · obtain ⟨kvs, h1, h2⟩ := h.wt
    exact ⟨kvs, f1 h1 (fun _ z => (by cases z)) (fun _ z => (by cases z)), h2⟩
  · intro m' ns n h1 h2
    obtain ⟨ws, h3, h4⟩ := h.ls m' ns n h1 h2
    refine ⟨ws, fr _ _ (ne_ob h3 hk0 fun z => by cases z) (ds.lr m' ns n h1 h2) h3, dps_tups ft (noLs_all fun d hd => ?_) h4⟩
    obtain ⟨q, _, rfl⟩ := List.mem_map.mp hd
    exact noL_wD q
  · obtain ⟨kvs, h1, h2⟩ := h.ct
    exact ⟨kvs, fd h1 (ds.dc m hm).symm, h2⟩
  · obtain ⟨kvs, h1, h2⟩ := h.wd
    exact ⟨kvs, fd h1 (ds.dw m hm).symm, h2⟩
  · intro m' hm'
    by_cases e : m' = m
    · subst e
      refine ⟨_, hk, ?_, fun j => ?_⟩
      · show _ ≤ (if m' = m' then i :: W.wd m' else W.wd m').length
        rw [if_pos rfl, List.length_cons]
        have := length_putK kvs (.inl i) (V.bl true)
        omega
      · show _ = decide (j ∈ if m' = m' then i :: W.wd m' else W.wd m')
        rw [if_pos rfl, valV_put]
        by_cases z : j = i
        · subst z; simp
        · have z' : ¬ (Sum.inl j : Key) = Sum.inl i := fun h => z (Sum.inl.inj h)
          rw [if_neg z', hi j]
          simp [z]
    · obtain ⟨kvs', h1, h2, h3⟩ := h.ds m' hm'
      refine ⟨kvs', fd h1 (ds.dd m' hm' m hm e), ?_, fun j => ?_⟩
      · show _ ≤ (if m' = m then i :: W.wd m' else W.wd m').length
        rw [if_neg e]; exact h2
      · show _ = decide (j ∈ if m' = m then i :: W.wd m' else W.wd m')
        rw [if_neg e]; exact h3 j
theorem ok_withdraw (F : MF K Cc "withdraw" "Catalog.withdraw" (inClass (top 44) 6)) (T : CatC K Cc) (c1 : Mt P w K mg base 3 Cc "is_available" (preIsAvail K Cc)) : MtU P w K mg base 4 Cc "withdraw" (preWdr K Cc) := by
  refine mtu_of (N := ["self", "module", "version"]) (ps := ["self", "module", "version"]) F (by decide +kernel) (fun vs M G Pm h => ?_) (fun _ _ _ _ _ _ us hl => match us, hl with | [_, _, _], _ => rfl) fun f cdv A outer s C E vs M G Pm D hr eM eG ap h rt nx => ?_
  · obtain ⟨a, W, m, i, k, rfl, _⟩ := h; rfl
  obtain ⟨a, W, m, i, k, rfl, ca, ds, wo, hm, hi, ⟨rs, hrs, hrl⟩, hk, hwl, hP⟩ := h
  have hN : (["self", "module", "version"] : List PySem.Str).Nodup := by decide
  obtain ⟨kvs, hd0, hdl, hdi⟩ := ca.ds m hm
  obtain ⟨kw, hw0, hw1⟩ := ca.wd
  refine r_skip (N := M) (jt_notF (jt_val (j_meth c1 T.cl hr (jv 0) ca.obj (catF_no a (by decide +kernel)) (ja_cons (P := mIs (.str m)) (jv 1) (ja_cons (P := mIs (.int (i : Int))) (jv 2) ja_nil)) fun vs M' g p => ?_))) eM fun C1 e1 => ?_
  · obtain ⟨x, y, rfl, rfl, rfl⟩ := la2 p
    exact ⟨a, W, m, i, rfl, ca.mono g, wo, hm, hi, rfl⟩
  have eM1 := eM.trans e1
  have e0 : a.c ≠ a.d m := ne_ob ca.obj hd0 fun z => by cases z
  have e00 : a.c ≠ a.rc := ne_ob ca.obj hrs fun z => by cases z
  have e01 : a.wd ≠ a.rc := ne_ob hw0 hrs fun z => by cases z
  have e02 : a.d m ≠ a.rc := ne_ob hd0 hrs fun z => by cases z
  refine r_dput (N := M) (k := .inl (i : Int)) (v := .bl true) (hu_of hr) j_bl (j_dget (hu_of hr) (j_fld (jv 0) ca.obj T.cl T.n4 (catF_wd a)) (jv 1) (ca.wdr hm).1) (jv 2) eM1 (eM1 _ _ hd0) (by omega) fun C2 e2 => ?_
  have eM2 := eM1.trans e2
  generalize hC3 : upd C2 (a.d m) (.dK (putK kvs (.inl (i : Int)) (.bl true))) = C3
  have k3 : ∀ b o, b ≠ a.d m → C2 b = some o → C3 b = some o := fun b o hb h => by rw [← hC3, upd_ne hb]; exact h
  have h3d : C3 (a.d m) = some (.dK (putK kvs (.inl (i : Int)) (.bl true))) := by rw [← hC3]; exact upd_same
  refine r_app (l := a.rc) (xs := rs) (N := sing a.c (.ins Cc a.dx (catF a))) (P := mD K (.tuple [.str "withdraw", .str m, .int (i : Int)])) (j_fld (jv 0) sing_same T.cl T.n5 (catF_rc a)) (j_tup (K := K) (ja_consD (j_str.val (.str _)) (ja_consD ((jv 1).val (.str _)) (ja_consD ((jv 2).val (.int _)) ja_nilD))) (by show 3 ≤ 100000; decide)) (sing_ex (k3 _ _ e0 (eM2 _ _ ca.obj))) (if_neg e00.symm) (k3 _ _ e02.symm (eM2 _ _ hrs)) (by omega) fun v N4 C4 g4 hN4 p4 => ?_
  have fr : ∀ b o, b ≠ a.d m → b ≠ a.rc → C b = some o → (upd C4 a.rc (.lst (rs ++ [v]))) b = some o := fun b o h1 h2 hb => by rw [upd_ne h2]; exact g4.ext _ _ (k3 _ _ h1 ((e1.trans e2) _ _ hb))
  have hd4 : (upd C4 a.rc (.lst (rs ++ [v]))) (a.d m) = some (.dK (putK kvs (.inl (i : Int)) (.bl true))) := by rw [upd_ne e02]; exact g4.ext _ _ h3d
  have hr4 : (upd C4 a.rc (.lst (rs ++ [v]))) a.rc = some (.lst (rs ++ [v])) := upd_same
  generalize upd C4 a.rc (.lst (rs ++ [v])) = C5 at fr hd4 hr4
  have hrl' : (rs ++ [v]).length ≤ k + 1 := by rw [List.length_append]; show rs.length + 1 ≤ k + 1; omega
  have ca5 : CatAt K Cc C5 a (wdW W m i) := CatAt.wdr' (ca.mono eM) ds hm fr (eM _ _ hd0) hd4 hr4 (by omega) hdl hdi
  refine r_nil (nx (mx M C C5) C5 _ (mx_mu (fun b o hn hb => fr b o (fun z => by rw [z, hd0] at hn; cases hn) (fun z => by rw [z, hrs] at hn; cases hn) hb) fun b o t hb => fr b o (fun z => by rw [z, eM _ _ hd0] at hb; cases hb; exact isT_dK t) (fun z => by rw [z, eM _ _ hrs] at hb; cases hb; exact isT_lst t) hb) (hP _ (ca.into rfl ca5) ⟨_, ?_, hrl'⟩))
  rw [mx_own (by rw [hrs]; exact fun z => by cases z)]
  exact hr4
end
end Gs

set_option Elab.async false
set_option linter.all false
set_option maxRecDepth 100000
set_option maxHeartbeats 4000000
/-! GsPub: Catalog.publish. -/
namespace Gs
open PySem PySem.Spec PyProof.Rows L2 Evl
/-- zip of a tuple and a list that are data -/
theorem ji_zipM {σ : L2.St} {N : Hp} {ta : TA} {K : PySem.W.Frag} {ds es : List PyData} {n : Nat} (h : EvAP ta σ N (lCons (mD K (.tuple ds)) (lCons (mD K (.list es)) lNil))) (hn : n = min ds.length es.length) :
    JI (iZipM K ta) σ N n fun i => ⟨fun x H => ∃ T u v d e, x = .ref T ∧ H T = some (.tup [u, v]) ∧ ds[i]? = some d ∧ es[i]? = some e ∧ Dp K H u d ∧ Dp K H v e, fun e ⟨T, u, v, d, e', h1, h2, h3, h4, h5, h6⟩ => ⟨T, u, v, d, e', h1, e _ _ h2, h3, h4, dp_mono e h5, dp_mono e h6⟩⟩ := fun C eC R k =>
  h C eC _ fun vs N1 C1 g p => by
    obtain ⟨x, y, rfl, hx, hy⟩ := la2 p
    obtain ⟨a, xs, rfl, s1, al1⟩ := dp_tup hx
    obtain ⟨b, ys, rfl, s2, al2⟩ := dp_lst hy
    have W : Walk (Itm K a b) n (fun H => SqT K H a xs ∧ SqL K H b ys) (YPair (fun i => xs[i]?) (fun i => ys[i]?)) := walk_zipM (by rw [dps_len al1, dps_len al2]; exact hn)
    refine ⟨a, b, xs, ys, rfl, ex_t g.sub s1, ex_l g.sub s2, k _ N1 C1 g ⟨fun i H hi e => W.goes i H hi ⟨ex_t e s1, ex_l e s2⟩, fun H e => W.stops H ⟨ex_t e s1, ex_l e s2⟩, fun i H x H' hi e y => ?_⟩⟩
    obtain ⟨T, u, v, rfl, hT, rfl, hu, hv⟩ := W.yields i H x H' hi ⟨ex_t e s1, ex_l e s2⟩ y
    obtain ⟨d, hd, hdu⟩ := dps_get al1 hu
    obtain ⟨e', he, hev⟩ := dps_get al2 hv
    have hn1 : N1 T = none := fresh_back e hT
    exact ⟨upd N1 T (.tup [u, v]), (Gr.refl e).new hT, T, u, v, d, e', rfl, upd_same, hd, he, dp_mono (Ex.new hn1) hdu, dp_mono (Ex.new hn1) hev⟩
/-- windows for the uses, side by side -/
def addQ (ns : List PySem.Str) (qs : List Wn) (n : PySem.Str) : List Wn := (ns.zip qs).filterMap fun p => if p.1 = n then some p.2 else none
/-- the module has one more version -/
def pubW (W : Wr) (m : PySem.Str) (ns : List PySem.Str) (qs : List Wn) : Wr := { W with win := fun u n => if u = m then W.win u n ++ addQ ns qs n else W.win u n, cnt := fun u => if u = m then W.cnt u + 1 else W.cnt u }
/-- its columns alone have been filled -/
def colW (W : Wr) (m : PySem.Str) (ns : List PySem.Str) (qs : List Wn) : Wr := { W with win := fun u n => if u = m then W.win u n ++ addQ ns qs n else W.win u n }
theorem addQ_nil {qs : List Wn} {n : PySem.Str} : addQ [] qs n = [] := rfl
theorem addQ_snoc {ns : List PySem.Str} {qs : List Wn} {x n : PySem.Str} {q : Wn} (h : ns.length = qs.length) : addQ (ns ++ [x]) (qs ++ [q]) n = addQ ns qs n ++ (if x = n then [q] else []) := by
  unfold addQ
  rw [List.zip_append h, List.filterMap_append]
  refine congrArg _ ?_
  by_cases e : x = n
  · simp [e]
  · simp [e]
theorem addQ_one {ns : List PySem.Str} {qs : List Wn} (nd : ns.Nodup) : ∀ {i : Nat} {n : PySem.Str} {q : Wn}, ns[i]? = some n → qs[i]? = some q → addQ ns qs n = [q] := by
  induction ns generalizing qs with
  | nil => intro i n q h; cases h
  | cons a r ih =>
    intro i n q h1 h2
    cases qs with
    | nil => cases h2
    | cons b s =>
      have ndr := (List.nodup_cons.mp nd)
      cases i with
      | zero =>
        have e1 : a = n := Option.some.inj h1
        have e2 : b = q := Option.some.inj h2
        subst e1 e2
        unfold addQ
        rw [List.zip_cons_cons, List.filterMap_cons]
        simp only [if_pos]
        refine congrArg _ ?_
        refine List.filterMap_eq_nil_iff.mpr fun p hp => ?_
        have hm := (List.of_mem_zip hp).1
        have hz : ¬ p.1 = a := fun z => ndr.1 (by rw [← z]; exact hm)
        exact if_neg hz
      | succ i =>
        have hn : n ∈ r := List.mem_of_getElem? (by simpa using h1)
        have hne : a ≠ n := fun z => ndr.1 (z ▸ hn)
        have := ih (qs := s) ndr.2 (i := i) (n := n) (q := q) (by simpa using h1) (by simpa using h2)
        unfold addQ at this ⊢
        rw [List.zip_cons_cons, List.filterMap_cons]
        simp only [if_neg hne]
        exact this
theorem length_putIn {κ : Type} [DecidableEq κ] {kvs : List (κ × V)} {k : κ} {v w : V} (h : valV kvs k = some v) : (putK kvs k w).length = kvs.length := by
  unfold putK
  rw [valV_any, h]
  rw [if_pos (show (some v).isSome = true from rfl), List.length_map]
section
variable {K : PySem.W.Frag} {Cc : Addr} {C C' : Hp} {a : CatA} {W : Wr} {m : PySem.Str}
/-- one column got a window -/
theorem CatAt.col (h : CatAt K Cc C a W) (ds : CatDs a W) {n : PySem.Str} {ns : List PySem.Str} (hm : (m, ns) ∈ W.us) (hn : n ∈ ns) {W2 : Wr} {q : Wn} (fr : ∀ b o, b ≠ a.l m n → C b = some o → C' b = some o) {xs : List V} {v : V} (h0 : C (a.l m n) = some (.lst xs)) (hxs : DpAll K C xs ((W.win m n).map wD)) (hl : C' (a.l m n) = some (.lst (xs ++ [v]))) (hv : Dp K C' v (wD q))
    (e1 : W2.us = W.us) (e2 : W2.cnt = W.cnt) (e3 : W2.wd = W.wd) (e4 : W2.win m n = W.win m n ++ [q]) (e5 : ∀ u x, (u, x) ≠ (m, n) → W2.win u x = W.win u x) : CatAt K Cc C' a W2 := by
  have f1 : ∀ {b : Addr} {o : HO}, C b = some o → (∀ x, o ≠ .lst x) → C' b = some o := fun {b o} hb h2 => fr b o (ne_ob hb h0 (h2 _)) hb
  have ft : ∀ b o, isT o → C b = some o → C' b = some o := fun b o t hb => f1 hb fun x z => isT_lst (z ▸ t)
  have em : W2.mods = W.mods := by unfold Wr.mods; rw [e1]
  obtain ⟨rs, hr, hrl⟩ := h.rc
  refine ⟨f1 h.obj (fun _ z => (by cases z)), ?_, ?_, ?_, ?_, ?_, ?_, ⟨rs, fr _ _ (ds.lr m ns n hm hn).symm hr, hrl⟩⟩
  · obtain ⟨o, kvs, h1, h2⟩ := h.ut
    rw [e1]
    exact ⟨o, kvs, f1 h1 (fun _ z => (by cases z)), h2.mono2 fun u kv ⟨e1, e2⟩ => ⟨e1, dp_tups ft (noL_strs _) e2⟩⟩
  · obtain ⟨kvs, h1, h2⟩ := h.wt
    rw [e1]
    exact ⟨kvs, f1 h1 (fun _ z => (by cases z)), h2⟩
  · intro u us x h1 h2
    rw [e1] at h1
    by_cases e : (u, x) = (m, n)
    · cases e
      refine ⟨_, hl, ?_⟩
      rw [e4, List.map_append]
      refine dps_snoc (dps_tups ft (noLs_all fun d hd => ?_) hxs) hv
      obtain ⟨q, _, rfl⟩ := List.mem_map.mp hd
      exact noL_wD q
    · obtain ⟨ws, h3, h4⟩ := h.ls u us x h1 h2
      rw [e5 u x e]
      refine ⟨ws, fr _ _ (ds.ll u us x m ns n h1 h2 hm hn e) h3, dps_tups ft (noLs_all fun d hd => ?_) h4⟩
      obtain ⟨q, _, rfl⟩ := List.mem_map.mp hd
      exact noL_wD q
  · obtain ⟨kvs, h1, h2, h3⟩ := h.ct
    rw [em, e2]
    exact ⟨kvs, f1 h1 (fun _ z => (by cases z)), h2, h3⟩
  · obtain ⟨kvs, h1, h2⟩ := h.wd
    rw [em]
    exact ⟨kvs, f1 h1 (fun _ z => (by cases z)), h2⟩
  · intro u hu
    rw [em] at hu
    obtain ⟨kvs, h1, h2, h3⟩ := h.ds u hu
    rw [e3]
    exact ⟨kvs, f1 h1 (fun _ z => (by cases z)), h2, h3⟩
/-- the count and the record were changed -/
theorem CatAt.cnt' (h : CatAt K Cc C a W) (ds : CatDs a W) {W2 : Wr} {c : Nat} (hm : m ∈ W.mods) (fr : ∀ b o, b ≠ a.ct → b ≠ a.rc → C b = some o → C' b = some o) {kvs : List (Key × V)} {rs : List V} (h0 : C a.ct = some (.dK kvs)) (hv : ∀ u, u ∈ W.mods → valV kvs (.inr u) = some (.int (W.cnt u))) (hkl : kvs.length ≤ 1000) (hct : C' a.ct = some (.dK (putK kvs (.inr m) (.int (c : Int))))) (hr : C' a.rc = some (.lst rs)) (hrl : rs.length ≤ 1000)
    (e1 : W2.us = W.us) (e2 : ∀ u, W2.cnt u = if u = m then c else W.cnt u) (e3 : W2.wd = W.wd) (e4 : W2.win = W.win) : CatAt K Cc C' a W2 := by
  obtain ⟨rs0, hr0, _⟩ := h.rc
  have f1 : ∀ {b : Addr} {o : HO}, C b = some o → (∀ x, o ≠ .dK x) → (∀ x, o ≠ .lst x) → C' b = some o := fun {b o} hb h1 h2 => fr b o (ne_ob hb h0 (h1 _)) (ne_ob hb hr0 (h2 _)) hb
  have ft : ∀ b o, isT o → C b = some o → C' b = some o := fun b o t hb => f1 hb (fun x z => isT_dK (z ▸ t)) fun x z => isT_lst (z ▸ t)
  have fd : ∀ {b : Addr} {x : List (Key × V)}, C b = some (.dK x) → b ≠ a.ct → C' b = some (.dK x) := fun {b x} hb h1 => fr b _ h1 (ne_ob hb hr0 fun z => by cases z) hb
  have em : W2.mods = W.mods := by unfold Wr.mods; rw [e1]
  refine ⟨f1 h.obj (fun _ z => (by cases z)) (fun _ z => (by cases z)), ?_, ?_, ?_, ?_, ?_, ?_, ⟨rs, hr, hrl⟩⟩
  · obtain ⟨o, kvs, h1, h2⟩ := h.ut
    rw [e1]
    exact ⟨o, kvs, f1 h1 (fun _ z => (by cases z)) (fun _ z => (by cases z)), h2.mono2 fun u kv ⟨e1, e2⟩ => ⟨e1, dp_tups ft (noL_strs _) e2⟩⟩
  · obtain ⟨kvs, h1, h2⟩ := h.wt
    rw [e1]
    exact ⟨kvs, f1 h1 (fun _ z => (by cases z)) (fun _ z => (by cases z)), h2⟩
  · intro u us x h1 h2
    rw [e1] at h1
    obtain ⟨ws, h3, h4⟩ := h.ls u us x h1 h2
    rw [e4]
    refine ⟨ws, fr _ _ (ne_ob h3 h0 fun z => by cases z) (ds.lr u us x h1 h2) h3, dps_tups ft (noLs_all fun d hd => ?_) h4⟩
    obtain ⟨q, _, rfl⟩ := List.mem_map.mp hd
    exact noL_wD q
  · refine ⟨_, hct, by rw [length_putIn (hv m hm)]; exact hkl, fun u hu => ?_⟩
    rw [em] at hu
    rw [valV_put, e2]
    by_cases z : u = m
    · subst z; simp
    · have z' : ¬ (Sum.inr u : Key) = Sum.inr m := fun h => z (Sum.inr.inj h)
      rw [if_neg z', if_neg z]
      exact hv u hu
  · obtain ⟨kvs, h1, h2⟩ := h.wd
    rw [em]
    exact ⟨kvs, fd h1 ds.wc, h2⟩
  · intro u hu
    rw [em] at hu
    obtain ⟨kvs, h1, h2, h3⟩ := h.ds u hu
    rw [e3]
    exact ⟨kvs, fd h1 (ds.dc u hu), h2, h3⟩
end
theorem un_sub {M N C : Hp} (hm : Ex M C) (hn : Ex N C) : Ex (un M N) C := fun b o e => by
  unfold un at e
  split at e
  · rename_i u hu; cases e; exact hm b _ hu
  · exact hn b o e
/-- G and the tuples of U -/
noncomputable def tpl (G U : Hp) : Hp := fun b => open Classical in if G b ≠ none then G b else if ∃ o, U b = some o ∧ isT o then U b else none
theorem tpl_G {G U : Hp} : Ex G (tpl G U) := fun b o h => by
  unfold tpl
  rw [if_pos (by rw [h]; exact fun z => by cases z)]
  exact h
theorem tpl_T {G U C : Hp} (eG : Ex G C) (eU : Ex U C) : ∀ b o, isT o → U b = some o → tpl G U b = some o := fun b o t h => by
  unfold tpl
  by_cases hg : G b ≠ none
  · rw [if_pos hg]
    cases hu : G b with
    | none => exact absurd hu hg
    | some u =>
      have := eG b u hu
      rw [eU b o h] at this
      rw [this]
  · rw [if_neg hg, if_pos ⟨o, h, t⟩]; exact h
theorem tpl_sub {G U C : Hp} (eG : Ex G C) (eU : Ex U C) : Ex (tpl G U) C := fun b o h => by
  unfold tpl at h
  split at h
  · exact eG b o h
  · split at h
    · exact eU b o h
    · cases h
theorem tpl_none {G U M : Hp} (ap : Apart M G) {b : Addr} {o : HO} (hm : M b = some o) (hu : U b = some o) (ht : ¬ isT o) (hg : ∀ u, G b = some u → u = o) : tpl G U b = none := by
  unfold tpl
  have h1 : G b = none := by
    cases h : G b with
    | none => rfl
    | some u =>
      rcases ap b u h with h' | h'
      · rw [hm] at h'; cases h'
      · rw [hg u h] at h'; exact absurd h' ht
  rw [h1]
  simp only [ne_eq, not_true_eq_false, if_false]
  refine if_neg fun ⟨o', h2, h3⟩ => ?_
  rw [hu] at h2
  cases h2
  exact ht h3
theorem shaped_wns (ws : List Wn) : SeqAt.shaped (.list (ws.map wD)) = true := shapedL fun d hd => by
  obtain ⟨⟨l, h⟩, _, rfl⟩ := List.mem_map.mp hd
  cases h with
  | none => exact ⟨rfl, by show PyData.depth (.tuple [.int l, .none]) ≤ 5; simp [PyData.depth, PyData.depthAll]⟩
  | some h => exact ⟨rfl, by show PyData.depth (.tuple [.int l, .int h]) ≤ 5; simp [PyData.depth, PyData.depthAll]⟩
theorem last_some {α : Type} {l : List α} (h : l ≠ []) : l.getLast? = some (l.getLast h) := by
  cases l with
  | nil => exact absurd rfl h
  | cons a r => rfl
theorem colW_nil {W : Wr} {m : PySem.Str} {qs : List Wn} : colW W m [] qs = W := by
  have h : (fun u n => if u = m then W.win u n ++ addQ [] qs n else W.win u n) = W.win := by
    funext u n
    by_cases z : u = m
    · rw [if_pos z]; exact List.append_nil _
    · rw [if_neg z]
  show ({ W with win := fun u n => if u = m then W.win u n ++ addQ [] qs n else W.win u n } : Wr) = W
  rw [h]
theorem CatDs.of_us {a : CatA} {W W2 : Wr} (h : CatDs a W) (e : W2.us = W.us) : CatDs a W2 := by
  have em : W2.mods = W.mods := by unfold Wr.mods; rw [e]
  exact ⟨h.wc, fun m hm => h.dc m (em ▸ hm), fun m hm => h.dw m (em ▸ hm), fun m hm n hn => h.dd m (em ▸ hm) n (em ▸ hn), fun m ns n h1 h2 => h.lr m ns n (e ▸ h1) h2, fun m ns n m' ns' n' h1 h2 h3 h4 => h.ll m ns n m' ns' n' (e ▸ h1) h2 (e ▸ h3) h4⟩
theorem jt_neNil {X : Cx} {e : Expr} {σ : L2.St} {N : Hp} {ds : List PyData} {pos lp : Pos} (hu : X.A.units + 64 < cLine) (sh : SeqAt.shaped (.list ds) = true) (he : J X e σ N (mD X.K (.list ds))) : JT X (.Compare e [.NotEq] [.List [] lp] pos) σ N (decide (ds ≠ [])) := jt_cmpP (op_neD hu) he (j_lst (K := X.K) ja_nilD) fun x y M g hx hy => rp_rv (rv_neNil sh hx hy) rfl
theorem j_m1 {X : Cx} {σ : L2.St} {N : Hp} {kd : Nat} {p1 pos : Pos} : J X (.UnaryOp .USub (.Constant (.int 1) kd p1) pos) σ N (mIs (.int (-1))) := j_of (pe_un un_neg pe_int) fun C eC Q q => ⟨1, rfl, q (.int (-1)) N C (Gr.refl eC) rfl⟩
section
variable {P : Program} {w : World} {K : PySem.W.Frag} {mg : PySem.Str → Option Value} {base : Heap} {Cc : Addr}
def prePub (K : PySem.W.Frag) (Cc : Addr) (vs : List V) (M G : Hp) (Pm : V → Hp → Prop) : Prop := ∃ (a : CatA) (W : Wr) (m : PySem.Str) (ns : List PySem.Str) (qs : List Wn) (wv : V) (k : Nat), vs = [.ref a.c, .str m, wv] ∧ CatAt K Cc M a W ∧ CatDs a W ∧ WOk W ∧ (m, ns) ∈ W.us ∧ Dp K G wv (.list (qs.map wD)) ∧ qs.length = ns.length ∧ (∀ q ∈ qs, WinOk q) ∧
  (∀ (i : Nat) n q p, ns[i]? = some n → qs[i]? = some q → (W.win m n).getLast? = some p → RiseOk p q) ∧ W.cnt m < 10 ∧ RecLe M a k ∧ k < 900 ∧ ∀ N', CatAt K Cc N' a (pubW W m ns qs) → RecLe N' a (k + 1) → Pm (.int (W.cnt m)) N'
theorem ok_publish (F : MF K Cc "publish" "Catalog.publish" (inClass (top 44) 5)) (B : Bt mg) (T : CatC K Cc) (G1 : GI mg "MOST_VERSIONS" 16) (c1 : Cl P w K mg base 1 "require_module" (preReqMod K Cc)) (c2 : Cl P w K mg base 4 "check_new_windows" (preNewW K)) (c3 : Cl P w K mg base 5 "rises" (preRises K)) : MtU P w K mg base 6 Cc "publish" (prePub K Cc) := by
  refine mtu_of (N := ["self", "module", "windows", "names", "name", "window", "column", "number"]) (ps := ["self", "module", "windows"]) F (by decide +kernel) (fun vs M G Pm h => ?_) (fun _ _ _ _ _ _ us hl => match us, hl with | [_, _, _], _ => rfl) fun f cdv A outer s C E vs M G Pm D hr eM eG ap h rt nx => ?_
  · obtain ⟨a, W, m, ns, qs, wv, k, rfl, _⟩ := h; rfl
  obtain ⟨a, W, m, ns, qs, wv, k, rfl, ca, ds, wo, hus, hwd, hql, hqok, hrise, hcnt, ⟨rs, hrs, hrl⟩, hk, hP⟩ := h
  have hN : (["self", "module", "windows", "names", "name", "window", "column", "number"] : List PySem.Str).Nodup := by decide
  have hm : m ∈ W.mods := us_mem hus
  have hfew := uses_few wo m
  rw [wo.usesOf hus] at hfew
  have eU : Ex (un M G) C := un_sub eM eG
  have caU := ca.mono (un_l (M := M) (N := G))
  have hwU := dp_mono (un_r eM eG) hwd
  have hsn : (strsD ns).length = ns.length := List.length_map _
  have hsq : (qs.map wD).length = qs.length := List.length_map _
  refine r_drop (N := un M G) (P := mIs .non) (j_call c1 hr (ja_cons (P := mIs (.ref a.c)) (jv 0) (ja_cons (P := mIs (.str m)) (jv 1) ja_nil)) fun vs M' g p => ?_) eU fun x N1 C1 g1 p1 => ?_
  · obtain ⟨x, y, rfl, rfl, rfl⟩ := la2 p
    exact ⟨a, W, m, rfl, caU.mono g, wo, hm, rfl⟩
  have ca1 := caU.mono g1.up
  obtain ⟨nv, hnv1, hnv2⟩ := ca1.uses wo hus
  refine r_set 3 (N := N1) (P := mIs nv) (j_dget (hu_of hr) (j_fld (jv 0) ca1.obj T.cl T.n1 (catF_ut a)) (jv 1) hnv1) g1.sub hN fun v N2 C2 g2 p2 => ?_
  have p2' : v = nv := p2
  subst p2'
  have hnv := dp_mono g2.up hnv2
  have g12 := g1.trans g2
  refine r_drop (N := N2) (P := mIs .non) (j_call c2 hr (ja_cons (P := mD K (.list (qs.map wD))) (j_var 2 (dp_mono g12.up hwU)) (ja_cons (P := mIs (.int (strsD ns).length)) (j_lenT (j_var 3 (P := mD K _) hnv) B.len) ja_nil)) fun vs M' g p => ?_) g2.sub fun x N3 C3 g3 p3 => ?_
  · obtain ⟨x, y, rfl, hx, rfl⟩ := la2 p
    exact ⟨x, ns.length, qs, by rw [hsn], hx, hql, by omega, hqok, rfl⟩
  have ca3 : CatAt K Cc N3 a W := ca1.mono (g2.trans g3).up
  have hw3 := dp_mono (g12.trans g3).up hwU
  have hnv3 := dp_mono g3.up hnv
  have g13 := g12.trans g3
  obtain ⟨kwt, hwt, hwt2⟩ := ca3.wt
  refine r_for (N := N3) (n := ns.length) (pi_zipM rfl B.zip pA) (ji_zipM (K := K) (ds := strsD ns) (es := qs.map wD) (ja_cons (j_var 3 (P := mD K _) hnv3) (ja_cons (j_var 2 (P := mD K _) hw3) ja_nil)) (by rw [hsn, hsq, hql]; simp)) g3.sub (pg_tup rfl (pgs_cons (pg_name (i := 4) hN rfl (Or.inl rfl)) (pgs_cons (pg_name (i := 5) hN rfl (Or.inl rfl)) pgs_nil))) PassesOwn.never rfl
    (fun N4 i σ C4 => ∃ (Mi : Hp) (o4 o5 o6 : Option V), Gr (un M G) C Mi C4 ∧ Ex N4 Mi ∧ Ex N3 Mi ∧ σ = [some (.ref a.c), some (.str m), some wv, some v, o4, o5, o6, none])
    (fun N4 C4 g4 => ⟨N4, none, none, none, g13.trans g4, Ex.refl _, g4.up, rfl⟩) (fun N4 i σ C4 ⟨Mi, _, _, _, h1, h2, _⟩ => h2.trans h1.sub) (fun N4 i x σ C4 M5 C5 e4 hi hP4 gM hx => ?_) fun N4 σ C4 e4 hP4 => ?_
  · obtain ⟨Mi, o4, o5, o6, gi, eNi, e3i, rfl⟩ := hP4
    obtain ⟨gm2, em2⟩ := gM.more eNi gi.sub
    obtain ⟨Tb, u, v', d, e', rfl, hT, hd1, he1, hd2, he2⟩ := hx
    have hiq : i < qs.length := by omega
    unfold strsD at hd1
    rw [List.getElem?_map, List.getElem?_eq_getElem hi] at hd1
    have hd1' : PyData.str ns[i] = d := Option.some.inj hd1
    subst hd1'
    rw [List.getElem?_map, List.getElem?_eq_getElem hiq] at he1
    have he1' : wD qs[i] = e' := Option.some.inj he1
    subst he1'
    obtain rfl := dp_str hd2
    have g5 := gi.trans gm2
    have e35 : Ex N3 (un Mi M5) := e3i.trans gm2.up
    have ca5 := ca3.mono e35
    have hnm : ns[i] ∈ ns := List.getElem_mem hi
    refine gp2 (SqT.of (gm2.sub _ _ (em2 _ _ hT))) ?_
    refine r_set 6 (N := un Mi M5) (P := mIs (.ref (a.l m ns[i]))) (j_dget2 (k1 := .inr m) (k2 := .inr ns[i]) (hu_of hr) (j_fld (jv 0) ca5.obj T.cl T.n2 (catF_wt a)) (jv 1) (jv 4) (e35 _ _ hwt) (hwt2 m ns _ hus hnm)) g5.sub hN fun v6 N6 C6 g6 p6 => ?_
    have p6' : v6 = V.ref (a.l m ns[i]) := p6
    subst p6'
    have g56 := g5.trans g6
    obtain ⟨ws, hws1, hws2⟩ := (ca5.mono g6.up).ls m ns _ hus hnm
    have hcol : Dp K N6 (.ref (a.l m ns[i])) (.list ((W.win m ns[i]).map wD)) := .lst (SqL.of hws1) hws2
    refine r_skip (N := N6) (JW.t ?_) g56.sub fun C7 e7 => r_nil ⟨N6, _, _, _, g56.grow e7, eNi.trans (gm2.up.trans g6.up), e35.trans g6.up, rfl⟩
    by_cases hw : W.win m ns[i] = []
    · exact jw_and (k := false) (l := false) (JT.is (b := decide ((W.win m ns[i]).map wD ≠ [])) (jt_neNil hr.units (shaped_wns _) (j_var 6 (P := mD K _) hcol)) (by rw [hw]; rfl)) fun z => nomatch z
    · refine jw_and (k := true) (l := false) (JT.is (b := decide ((W.win m ns[i]).map wD ≠ [])) (jt_neNil hr.units (shaped_wns _) (j_var 6 (P := mD K _) hcol)) (by rw [decide_eq_true]; exact fun z => hw (List.map_eq_nil_iff.mp z))) fun _ => jw_and1 (jt_notF (jt_val (j_call c3 hr (ja_cons (P := mD K (wD ((W.win m ns[i]).getLast hw))) (j_ixL (ds := (W.win m ns[i]).map wD) (j_var 6 (P := mD K _) hcol) j_m1 ?_) (ja_cons (P := mD K (wD qs[i])) (j_var 5 (dp_mono (em2.trans g6.up) he2)) ja_nil)) fun vs M' g p => ?_)))
      · have : (W.win m ns[i]).map wD = (W.win m ns[i]).dropLast.map wD ++ [wD ((W.win m ns[i]).getLast hw)] := by rw [← List.map_singleton, ← List.map_append, List.dropLast_concat_getLast hw]
        rw [this]
        exact atI_last _ _
      · obtain ⟨x, y, rfl, hx, hy⟩ := la2 p
        exact ⟨x, y, _, _, rfl, hx, hy, wo.ok m ns[i] _ (List.getLast_mem hw), hqok _ (List.getElem_mem hiq), hrise i ns[i] qs[i] _ (List.getElem?_eq_getElem hi) (List.getElem?_eq_getElem hiq) (last_some hw), rfl⟩
  · obtain ⟨Mi, o4, o5, o6, gi, eNi, e3i, rfl⟩ := hP4
    have ca4 := ca3.mono e3i
    have hnv4 := dp_mono e3i hnv3
    refine r_set 7 (N := Mi) (P := mIs (.int (W.cnt m))) (j_dget (hu_of hr) (j_fld (jv 0) ca4.obj T.cl T.n3 (catF_ct a)) (jv 1) (ca4.cnt hm)) gi.sub hN fun v7 N7 C7 g7 p7 => ?_
    have p7' : v7 = V.int (W.cnt m) := p7
    subst p7'
    refine r_skip (N := N7) (JT.is (jt_cmp op_ge (jv 7) (j_gi G1) rv_I0) (by rw [decide_eq_false_iff_not]; omega)) g7.sub fun C8 e8 => ?_
    have g8 : Gr (un M G) C N7 C8 := (gi.trans g7).grow e8
    have eC8 : Ex C C8 := g8.ext
    have ca8 : CatAt K Cc C8 a W := (ca4.mono g7.up).mono g8.sub
    -- the windows and the names alone
    have eG8 : Ex G C8 := eG.trans eC8
    have tp := tpl_T eG8 g8.sub
    have eT : Ex (tpl G N7) C8 := tpl_sub eG8 g8.sub
    have hwT : Dp K (tpl G N7) wv (.list (qs.map wD)) := dp_mono tpl_G hwd
    have hnT : Dp K (tpl G N7) v (.tuple (strsD ns)) := dp_tups tp (noL_strs _) (dp_mono g7.up hnv4)
    have hlM : ∀ n ∈ ns, ∃ xs, M (a.l m n) = some (.lst xs) ∧ DpAll K M xs ((W.win m n).map wD) := fun n hn => ca.ls m ns n hus hn
    have hlT : ∀ n ∈ ns, tpl G N7 (a.l m n) = none := fun n hn => by
      obtain ⟨xs, h1, _⟩ := hlM n hn
      have e1 := g8.up _ _ (un_l (N := G) _ _ h1)
      exact tpl_none ap h1 e1 isT_lst fun u hu => by
        have := eG8 _ _ hu
        rw [eC8 _ _ (eM _ _ h1)] at this
        exact (Option.some.inj this).symm
    obtain ⟨kct, hct, hctl, hctv⟩ := ca8.ct
    obtain ⟨kw8, hw8, hw8v⟩ := ca8.wt
    have hl8 : ∀ n ∈ ns, ∃ xs, C8 (a.l m n) = some (.lst xs) := fun n hn => by
      obtain ⟨xs, h1, _⟩ := hlM n hn
      exact ⟨xs, eC8 _ _ (eM _ _ h1)⟩
    have hr8 : C8 a.rc = some (.lst rs) := eC8 _ _ (eM _ _ hrs)
    refine r_for (N := tpl G N7) (n := ns.length) (pi_zipM rfl B.zip pA) (ji_zipM (K := K) (ds := strsD ns) (es := qs.map wD) (ja_cons (j_var 3 (P := mD K _) hnT) (ja_cons (j_var 2 (P := mD K _) hwT) ja_nil)) (by rw [hsn, hsq, hql]; simp)) eT (pg_tup rfl (pgs_cons (pg_name (i := 4) hN rfl (Or.inl rfl)) (pgs_cons (pg_name (i := 5) hN rfl (Or.inl rfl)) pgs_nil))) PassesOwn.never rfl
      (fun N9 i σ C9 => ∃ o4 o5 : Option V, CatAt K Cc C9 a (colW W m (ns.take i) (qs.take i)) ∧ Ex N9 C9 ∧ (∀ n ∈ ns, N9 (a.l m n) = none) ∧ (∀ b o, (∀ n ∈ ns, b ≠ a.l m n) → C8 b = some o → C9 b = some o) ∧ σ = [some (.ref a.c), some (.str m), some wv, some v, o4, o5, o6, some (.int (W.cnt m))])
      (fun N9 C9 g9 => ⟨o4, o5, by rw [List.take_zero, colW_nil]; exact ca8.mono g9.ext, g9.sub, fun n hn => by obtain ⟨xs, h⟩ := hl8 n hn; exact g9.out (hlT n hn) h, fun b o _ h => g9.ext _ _ h, rfl⟩) (fun N9 i σ C9 ⟨_, _, _, h, _⟩ => h) (fun N9 i x σ C9 M10 C10 e9 hi hP9 gM hx => ?_) fun N9 σ C9' e9 hP9 => ?_
    · obtain ⟨p4, p5, ca9, eN9, hno, fr9, rfl⟩ := hP9
      obtain ⟨Tb, u, v', d, e', rfl, hT, hd1, he1, hd2, he2⟩ := hx
      have hiq : i < qs.length := by omega
      unfold strsD at hd1
      rw [List.getElem?_map, List.getElem?_eq_getElem hi] at hd1
      have hd1' : PyData.str ns[i] = d := Option.some.inj hd1
      subst hd1'
      rw [List.getElem?_map, List.getElem?_eq_getElem hiq] at he1
      have he1' : wD qs[i] = e' := Option.some.inj he1
      subst he1'
      obtain rfl := dp_str hd2
      have hnm : ns[i] ∈ ns := List.getElem_mem hi
      have ca10 := ca9.mono gM.ext
      obtain ⟨xs, hx1, hx2⟩ := ca10.ls m ns ns[i] hus hnm
      obtain ⟨kw, hw1, hw2⟩ := ca10.wt
      have e0 : a.c ≠ a.wt := ne_ob ca10.obj hw1 fun z => by cases z
      have e1 : a.l m ns[i] ≠ a.c := ne_ob hx1 ca10.obj fun z => by cases z
      have e2 : a.l m ns[i] ≠ a.wt := ne_ob hx1 hw1 fun z => by cases z
      have hxl : xs.length < 100000 := by
        have h1 := dps_len hx2
        rw [List.length_map] at h1
        have h2 : ((colW W m (ns.take i) (qs.take i)).win m ns[i]).length = (W.win m ns[i]).length + (addQ (ns.take i) (qs.take i) ns[i]).length := by
          show (if m = m then _ else _ : List Wn).length = _
          rw [if_pos rfl, List.length_append]
        have h3 : (addQ (ns.take i) (qs.take i) ns[i]).length ≤ ns.length := by
          refine Nat.le_trans (List.length_filterMap_le _ _) ?_
          rw [List.length_zip, List.length_take]
          omega
        have h4 := wo.len m ns ns[i] hus hnm
        omega
      refine gp2 (SqT.of (gM.sub _ _ hT)) ?_
      refine r_app (l := a.l m ns[i]) (xs := xs) (N := upd (sing a.c (.ins Cc a.dx (catF a))) a.wt (.dT kw)) (P := mIs v') (j_dget2 (k1 := .inr m) (k2 := .inr ns[i]) (hu_of hr) (j_fld (jv 0) ((upd_ne e0).trans sing_same) T.cl T.n2 (catF_wt a)) (jv 1) (jv 4) upd_same (hw2 m ns _ hus hnm)) (jv 5) (fun b o hb => ?_) (by rw [upd_ne e2]; exact if_neg e1) hx1 hxl fun v11 N11 C11 g11 hN11 p11 => ?_
      · by_cases z : b = a.wt
        · subst z; rw [upd_same] at hb; cases hb; exact hw1
        · rw [upd_ne z] at hb; exact sing_ex ca10.obj b o hb
      · have p11' : v11 = v' := p11
        subst p11'
        have fr12 : ∀ b o, b ≠ a.l m ns[i] → C10 b = some o → (upd C11 (a.l m ns[i]) (.lst (xs ++ [v11]))) b = some o := fun b o hb h => by rw [upd_ne hb]; exact g11.ext _ _ h
        have hl12 : (upd C11 (a.l m ns[i]) (.lst (xs ++ [v11]))) (a.l m ns[i]) = some (.lst (xs ++ [v11])) := upd_same
        generalize upd C11 (a.l m ns[i]) (.lst (xs ++ [v11])) = C12 at fr12 hl12
        have hT1 : ns.take (i + 1) = ns.take i ++ [ns[i]] := by rw [List.take_succ, List.getElem?_eq_getElem hi]; rfl
        have hT2 : qs.take (i + 1) = qs.take i ++ [qs[i]] := by rw [List.take_succ, List.getElem?_eq_getElem hiq]; rfl
        have hTl : (ns.take i).length = (qs.take i).length := by rw [List.length_take, List.length_take, hql]
        have hv12 : Dp K C12 v11 (wD qs[i]) := dp_tups (fun b o t h => fr12 b o (fun z => by
          have := gM.sub b o h
          rw [z, hx1] at this
          cases this
          exact isT_lst t) (gM.sub b o h)) (noL_wD _) he2
        refine r_nil ⟨_, _, CatAt.col ca10 (ds.of_us (W2 := colW W m (ns.take i) (qs.take i)) rfl) hus hnm (q := qs[i]) fr12 hx1 hx2 hl12 hv12 rfl rfl rfl ?_ (fun u x hux => ?_), fun b o hb => fr12 b o (fun z => ?_) (gM.ext _ _ (eN9 _ _ hb)), hno, fun b o hb h => fr12 b o (hb _ hnm) (gM.ext _ _ (fr9 b o hb h)), rfl⟩
        · show (if m = m then _ else _ : List Wn) = (if m = m then _ else _ : List Wn) ++ _
          rw [if_pos rfl, if_pos rfl, hT1, hT2, addQ_snoc hTl, if_pos rfl, List.append_assoc]
        · show (if u = m then _ else _ : List Wn) = (if u = m then _ else _ : List Wn)
          by_cases z : u = m
          · subst z
            have hxn : ¬ ns[i] = x := fun z => hux (by rw [z])
            rw [if_pos rfl, if_pos rfl, hT1, hT2, addQ_snoc hTl, if_neg hxn, List.append_nil]
          · rw [if_neg z, if_neg z]
        · rw [z, hno _ hnm] at hb; cases hb
    · obtain ⟨p4, p5, ca9, eN9, hno, fr9, rfl⟩ := hP9
      rw [List.take_length, show qs.take ns.length = qs by rw [← hql, List.take_length]] at ca9
      have eTC : Ex (tpl G N7) C9' := e9.trans eN9
      have hl9 : ∀ n ∈ ns, ∀ {b : Addr} {o : HO}, C8 b = some o → (∀ x, o ≠ .lst x) → b ≠ a.l m n := fun n hn {b o} h1 h2 => by
        obtain ⟨xs, h⟩ := hl8 n hn
        exact ne_ob h1 h (h2 _)
      have k9 : ∀ {b : Addr} {o : HO}, C8 b = some o → (∀ x, o ≠ .lst x) → C9' b = some o := fun {b o} h1 h2 => fr9 b o (fun n hn => hl9 n hn h1 h2) h1
      have hr9 : C9' a.rc = some (.lst rs) := fr9 _ _ (fun n hn => (ds.lr m ns n hus hn).symm) hr8
      have ho9 := k9 ca8.obj fun _ z => by cases z
      have hc9 := k9 hct fun _ z => by cases z
      have e01 : a.c ≠ a.ct := ne_ob ho9 hc9 fun z => by cases z
      have e02 : a.c ≠ a.rc := ne_ob ho9 hr9 fun z => by cases z
      have e03 : a.ct ≠ a.rc := ne_ob hc9 hr9 fun z => by cases z
      refine r_dput (N := sing a.c (.ins Cc a.dx (catF a))) (k := .inr m) (v := .int ((W.cnt m : Int) + 1)) (hu_of hr) (j_add (jv 7) j_int) (j_fld (jv 0) sing_same T.cl T.n3 (catF_ct a)) (jv 1) (sing_ex ho9) hc9 (by omega) fun C10 e10 => ?_
      generalize hC11 : upd C10 a.ct (.dK (putK kct (.inr m) (.int ((W.cnt m : Int) + 1)))) = C11
      have k11 : ∀ b o, b ≠ a.ct → C9' b = some o → C11 b = some o := fun b o hb h => by rw [← hC11, upd_ne hb]; exact e10 _ _ h
      have hc11 : C11 a.ct = some (.dK (putK kct (.inr m) (.int ((W.cnt m : Int) + 1)))) := by rw [← hC11]; exact upd_same
      have gg : ∀ {b : Addr} {o : HO}, M b = some o → ¬ isT o → tpl G N7 b = none := fun {b o} h1 h2 => tpl_none ap h1 (g8.up _ _ (un_l (N := G) _ _ h1)) h2 fun u hu => by
        have := eG8 _ _ hu
        rw [eC8 _ _ (eM _ _ h1)] at this
        exact (Option.some.inj this).symm
      obtain ⟨kct0, hctM, _⟩ := ca.ct
      have hTc : tpl G N7 a.ct = none := gg hctM isT_dK
      have hTr : tpl G N7 a.rc = none := gg hrs isT_lst
      have eT11 : Ex (tpl G N7) C11 := fun b o h => k11 b o (fun z => by rw [z, hTc] at h; cases h) (eTC _ _ h)
      have eN : Ex (un (sing a.c (.ins Cc a.dx (catF a))) (tpl G N7)) C11 := un_sub (sing_ex (k11 _ _ e01 ho9)) eT11
      have hNr : un (sing a.c (.ins Cc a.dx (catF a))) (tpl G N7) a.rc = none := by
        unfold un
        rw [show sing a.c (.ins Cc a.dx (catF a)) a.rc = none from if_neg e02.symm]
        exact hTr
      have hwN : Dp K (un (sing a.c (.ins Cc a.dx (catF a))) (tpl G N7)) wv (.list (qs.map wD)) := dp_mono (un_r (C := C11) (sing_ex (k11 _ _ e01 ho9)) eT11) hwT
      refine r_app (l := a.rc) (xs := rs) (N := un (sing a.c (.ins Cc a.dx (catF a))) (tpl G N7)) (P := mD K (.tuple [.str "publish", .str m, .tuple (qs.map wD)])) (j_fld (jv 0) (un_l _ _ sing_same) T.cl T.n5 (catF_rc a)) (j_tup (K := K) (ja_consD (j_str.val (.str _)) (ja_consD ((jv 1).val (.str _)) (ja_consD (j_tupleD (j_var 2 (P := mD K _) hwN) B.tuple (by omega)) ja_nilD))) (by show 3 ≤ 100000; decide)) eN hNr (k11 _ _ e03.symm hr9) (by omega) fun v12 N12 C12 g12' hN12 p12 => ?_
      have fr13 : ∀ b o, b ≠ a.ct → b ≠ a.rc → C9' b = some o → (upd C12 a.rc (.lst (rs ++ [v12]))) b = some o := fun b o h1 h2 h => by rw [upd_ne h2]; exact g12'.ext _ _ (k11 b o h1 h)
      have hc13 : (upd C12 a.rc (.lst (rs ++ [v12]))) a.ct = some (.dK (putK kct (.inr m) (.int ((W.cnt m : Int) + 1)))) := by rw [upd_ne e03]; exact g12'.ext _ _ hc11
      have hr13 : (upd C12 a.rc (.lst (rs ++ [v12]))) a.rc = some (.lst (rs ++ [v12])) := upd_same
      generalize upd C12 a.rc (.lst (rs ++ [v12])) = C13 at fr13 hc13 hr13
      have hrl' : (rs ++ [v12]).length ≤ k + 1 := by rw [List.length_append]; show rs.length + 1 ≤ k + 1; omega
      have ca13 : CatAt K Cc C13 a (pubW W m ns qs) := CatAt.cnt' (c := W.cnt m + 1) ca9 (ds.of_us rfl) hm fr13 hc9 (fun u hu => hctv u hu) hctl hc13 hr13 (by omega) rfl (fun u => by
        show (if u = m then W.cnt u + 1 else W.cnt u) = if u = m then W.cnt m + 1 else W.cnt u
        by_cases z : u = m
        · rw [if_pos z, if_pos z, z]
        · rw [if_neg z, if_neg z]) rfl rfl
      refine r_ret (N := noHp) (jv 7) no_ex fun v14 N14 C14 g14 p14 => ?_
      have p14' : v14 = V.int (W.cnt m) := p14
      subst p14'
      have fr14 : ∀ b o, (∀ n ∈ ns, b ≠ a.l m n) → b ≠ a.ct → b ≠ a.rc → C b = some o → C14 b = some o := fun b o h1 h2 h3 h => g14.ext _ _ (fr13 b o h2 h3 (fr9 b o h1 (eC8 _ _ h)))
      refine rt _ (mx M C C14) C14 (mx_mu (fun b o hn hb => fr14 b o (fun n hn2 z => ?_) (fun z => by rw [z, hctM] at hn; cases hn) (fun z => by rw [z, hrs] at hn; cases hn) hb) fun b o t hb => fr14 b o (fun n hn2 z => ?_) (fun z => by rw [z, eM _ _ hctM] at hb; cases hb; exact isT_dK t) (fun z => by rw [z, eM _ _ hrs] at hb; cases hb; exact isT_lst t) hb) (hP _ (ca.into rfl (ca13.mono g14.ext)) ⟨_, ?_, hrl'⟩)
      · obtain ⟨xs, h1, _⟩ := hlM n hn2
        rw [z, h1] at hn; cases hn
      · obtain ⟨xs, h1, _⟩ := hlM n hn2
        rw [z, eM _ _ h1] at hb
        cases hb
        exact isT_lst t
      · rw [mx_own (by rw [hrs]; exact fun z => by cases z)]
        exact g14.ext _ _ hr13
end
end Gs

set_option Elab.async false
set_option linter.all false
set_option maxRecDepth 100000
set_option maxHeartbeats 4000000
/-! GsChk: check_uses; freezing. -/
namespace Gs
open PySem PySem.Spec PyProof.Rows L2 Evl
section
variable {X : Cx} {st : List Stmt} {D : Ends} {σ : L2.St} {C : Hp}
/-- an object is held fast from here on -/
theorem r_freeze {d : Addr} {u : HO} (e : C d = some u) (mu : Mut (some u)) (k : ∀ od, tR X st D σ (upd C d (.frz od u))) : tR X st D σ C := fun pins s I => by
  obtain ⟨od, J⟩ := I.lock e mu
  exact k od pins s J
end
/-- a table of uses -/
structure UsOk (us : List (PySem.Str × List PySem.Str)) : Prop where
  nd : (us.map (·.1)).Nodup
  few : us.length ≤ 3
  some : us ≠ []
  ok : ∀ u ∈ us, NameOk u.1
  ns : ∀ u ∈ us, u.2.Nodup ∧ ∀ n ∈ u.2, n ∈ us.map (·.1) ∧ n ≠ u.1
abbrev UsAt (K : PySem.W.Frag) (C : Hp) (us : List (PySem.Str × List PySem.Str)) (kvs : List (Key × V)) : Prop := F2 (fun (u : PySem.Str × List PySem.Str) (kv : Key × V) => kv.1 = .inr u.1 ∧ Dp K C kv.2 (.tuple (strsD u.2))) us kvs
section
variable {X : Cx}
theorem call_lenFz : CallR X (.builtin "len") (fun xs H Q => ∃ (a : Addr) (kvs : List (Key × V)), xs = [.ref a] ∧ Rd H a (.dK kvs) ∧ Q (.int kvs.length) H) := by
  intro pins s σ H xs us Q I r h
  obtain ⟨a, kvs, rfl, ha, q⟩ := h
  obtain ⟨u, rfl, ru⟩ := Vals.one r
  cases ru
  exact d_len I ha fun t s' I' => ⟨.int kvs.length, H, I', ⟨t, rfl⟩, q⟩
end
theorem UsOk.len {us : List (PySem.Str × List PySem.Str)} (h : UsOk us) {u : PySem.Str × List PySem.Str} (hu : u ∈ us) : u.2.length ≤ 3 := by
  have h1 := h.few
  have h2 : u.2.length ≤ (us.map (·.1)).length := nodup_len (h.ns u hu).1 fun n hn => ((h.ns u hu).2 n hn).1
  rw [List.length_map] at h2
  omega
theorem sum_le3 {us : List (PySem.Str × List PySem.Str)} (h : UsOk us) : (us.map fun u => (u.2.length : Int)).sum ≤ 9 := by
  have key : ∀ l : List (PySem.Str × List PySem.Str), (∀ u ∈ l, u.2.length ≤ 3) → (l.map fun u => (u.2.length : Int)).sum ≤ 3 * (l.length : Int) := by
    intro l
    induction l with
    | nil => intro _; exact Int.le_refl _
    | cons u r ih =>
      intro h
      have h1 := h u (List.mem_cons_self ..)
      have h2 := ih fun u hu => h u (List.mem_cons_of_mem _ hu)
      rw [List.map_cons, List.sum_cons, List.length_cons]
      omega
  have h1 := key us fun u hu => h.len hu
  have := h.few
  omega
section
variable {P : Program} {w : World} {K : PySem.W.Frag} {mg : PySem.Str → Option Value} {base : Heap}
def preChkU (K : PySem.W.Frag) (vs : List V) (N : Hp) (P : MP) : Prop := ∃ (d : Addr) (o : Obj) (us : List (PySem.Str × List PySem.Str)) (kvs : List (Key × V)), vs = [.ref d] ∧ N d = some (.frz o (.dK kvs)) ∧ UsAt K N us kvs ∧ UsOk us ∧ P = mIs .non
theorem ok_chkU (F : DF K mg "check_uses" (top 42)) (B : Bt mg) (G1 : GI mg "MOST_MODULES" 12) (G2 : GI mg "MOST_USES" 40) (c1 : Cl P w K mg base 1 "is_name" preName) (c2 : Cl P w K mg base 2 "is_row_of_names" (preRowN K)) : Cl P w K mg base 3 "check_uses" (preChkU K) := by
  refine cl_of (N := ["uses", "module", "names", "name"]) (ps := ["uses"]) F (by decide +kernel) (fun vs M Pm h => ?_) (fun _ _ _ _ _ _ us hl => match us, hl with | [_], _ => rfl) fun f cdv A outer s C E vs M Pm D hr eM h rt nx => ?_
  · obtain ⟨d, o, us, kvs, rfl, _⟩ := h; rfl
  obtain ⟨d, o, us, kvs, rfl, hd, hus, uo, rfl⟩ := h
  have hN : (["uses", "module", "names", "name"] : List PySem.Str).Nodup := by decide
  have hkl : kvs.length = us.length := hus.len
  have hpos : 0 < us.length := List.length_pos_iff.mpr uo.some
  have hfew := uo.few
  have jl : ∀ {e : Expr}, True := fun {_} => trivial
  refine r_skip (N := M) (JW.t (jw_orF (jt_notF (jt_val (j_isi (b := true) (vt := "dict") (P := mIs (.ref d)) (jv 0) (fun v M' g p => ?_) B.dict PyProof.Rows.Boot.«dict» (by decide +kernel) B.isi))) (jw_or1 (JT.is (jt_cmp (v := .int kvs.length) op_eq (j_cb1 (P := mIs (.ref d)) call_lenFz B.len PyProof.Rows.Boot.«len» (jv 0) fun v M' g p => ?_) j_int rv_eqI) (by rw [beq_eq_false_iff_ne]; omega))))) eM fun C1 e1 => ?_
  · have p' : v = V.ref d := p
    subst p'
    exact .fDict (g _ _ hd)
  · have p' : v = V.ref d := p
    subst p'
    exact fun C0 eC Q q => ⟨d, kvs, rfl, .inr ⟨o, eC _ _ (g _ _ hd)⟩, q _ _ _ (Gr.refl eC) rfl⟩
  refine r_skip (N := M) (JT.is (jt_cmp (v := .int kvs.length) op_gt (j_cb1 (P := mIs (.ref d)) call_lenFz B.len PyProof.Rows.Boot.«len» (jv 0) fun v M' g p => ?_) (j_gi G1) rv_I0) (by rw [decide_eq_false_iff_not]; omega)) (eM.trans e1) fun C2 e2 => ?_
  · have p' : v = V.ref d := p
    subst p'
    exact fun C0 eC Q q => ⟨d, kvs, rfl, .inr ⟨o, eC _ _ (g _ _ hd)⟩, q _ _ _ (Gr.refl eC) rfl⟩
  have eM2 := eM.trans (e1.trans e2)
  refine r_for (N := M) (n := kvs.length) (pi_items pE) (ji_items (J.ev (jv 0)) hd) eM2 (pg_tup rfl (pgs_cons (pg_name (i := 1) hN rfl (Or.inl rfl)) (pgs_cons (pg_name (i := 2) hN rfl (Or.inl rfl)) pgs_nil))) PassesOwn.never rfl
    (fun N2 i σ C3 => ∃ (Mi : Hp) (o1 o2 o3 : Option V), Gr M C Mi C3 ∧ Ex N2 Mi ∧ σ = [some (.ref d), o1, o2, o3])
    (fun N2 C3 g2 => ⟨N2, none, none, none, (Gr.of_ex eM (e1.trans e2)).trans g2, Ex.refl _, rfl⟩) (fun N2 i σ C3 ⟨Mi, _, _, _, h1, h2, _⟩ => h2.trans h1.sub) (fun N2 i x σ C3 M4 C4 e3 hi hP3 gM hx => ?_) fun N2 σ C3 e3 hP3 => ?_
  · obtain ⟨Mi, o1, o2, o3, gi, eNi, rfl⟩ := hP3
    obtain ⟨gm2, em2⟩ := gM.more eNi gi.sub
    obtain ⟨T, k, v, hkv, rfl, hT⟩ := hx
    obtain ⟨u, hu, hk, hv⟩ := hus.get hkv
    have hk' : k = .inr u.1 := hk
    subst hk'
    have hum : u ∈ us := List.mem_of_getElem? hu
    have g4 := gi.trans gm2
    refine gp2 (SqT.of (gm2.sub _ _ (em2 _ _ hT))) ?_
    refine r_skip (N := un Mi M4) (jt_notF (jt_val (j_call c1 hr (ja_cons (P := mIs (.str u.1)) (jv 1) ja_nil) fun vs M' g p => ?_))) g4.sub fun C5 e5 => ?_
    · obtain ⟨y, rfl, hy⟩ := la1 p
      have hy' : y = V.str u.1 := hy
      subst hy'
      exact ⟨_, rfl, uo.ok u hum, rfl⟩
    refine r_skip (N := un Mi M4) (jt_notF (jt_val (j_call c2 hr (ja_cons (P := mD K (.tuple (strsD u.2))) (j_var 2 (dp_mono g4.up hv)) (ja_cons (P := mIs (.str u.1)) (jv 1) ja_nil)) fun vs M' g p => ?_))) (g4.sub.trans e5) fun C6 e6 => r_nil ⟨un Mi M4, _, _, _, g4.grow (e5.trans e6), eNi.trans gm2.up, rfl⟩
    obtain ⟨y, z, rfl, hy, hz⟩ := la2 p
    have hz' : z = V.str u.1 := hz
    subst hz'
    refine ⟨y, u.1, u.2, rfl, hy, (uo.ns u hum).1, fun n hn => ?_, fun hn => ((uo.ns u hum).2 _ hn).2 rfl, uo.len hum, rfl⟩
    obtain ⟨u2, h1, h2⟩ := List.mem_map.mp ((uo.ns u hum).2 n hn).1
    rw [← h2]
    exact uo.ok u2 h1
  · obtain ⟨Mi, o1, o2, o3, gi, eNi, rfl⟩ := hP3
    have hdi := gi.up _ _ hd
    refine r_for (N := Mi) (n := kvs.length) (pi_values pE) (ji_values (J.ev (jv 0)) hdi) gi.sub (pg_name (i := 2) hN rfl (Or.inl rfl)) PassesOwn.never rfl
      (fun N2 i σ C3 => ∃ (Mj : Hp) (o2 o3 : Option V), Gr M C Mj C3 ∧ Ex N2 Mj ∧ σ = [some (.ref d), o1, o2, o3])
      (fun N2 C3 g2 => ⟨N2, _, _, gi.trans g2, Ex.refl _, rfl⟩) (fun N2 i σ C3 ⟨Mi, _, _, h1, h2, _⟩ => h2.trans h1.sub) (fun N2 i x σ C3 M4 C4 e3 hi hP3 gM hx => ?_) fun N2 σ C3 e3 hP3 => ?_
    · obtain ⟨Mj, o2, o3, gj, eNj, rfl⟩ := hP3
      obtain ⟨gm2, em2⟩ := gM.more eNj gj.sub
      obtain ⟨k, hkv⟩ := hx
      obtain ⟨u, hu, hk, hv⟩ := hus.get hkv
      have hum : u ∈ us := List.mem_of_getElem? hu
      have g4 := gj.trans gm2
      have hsl : (strsD u.2).length = u.2.length := List.length_map _
      have hul := uo.len hum
      refine r_for (N := un Mj M4) (n := (strsD u.2).length) (pi_tup pE) (ji_tup (j_var 2 (P := mD K _) (dp_mono g4.up hv))) g4.sub (pg_name (i := 3) hN rfl (Or.inl rfl)) PassesOwn.never rfl
        (fun N5 j σ C5 => ∃ (Mk : Hp) (o3 : Option V), Gr M C Mk C5 ∧ Ex N5 Mk ∧ Ex (un Mj M4) Mk ∧ σ = [some (.ref d), o1, some x, o3])
        (fun N5 C5 g5 => ⟨N5, _, g4.trans g5, Ex.refl _, g5.up, rfl⟩) (fun N5 j σ C5 ⟨Mi, _, h1, h2, _⟩ => h2.trans h1.sub) (fun N5 j y σ C5 M6 C6 e5 hj hP5 gM5 hy => ?_) fun N5 σ C5 e5 ⟨Mk, o3, gk, _, ek, hσ⟩ => ?_
      · obtain ⟨Mk, o3, gk, eNk, ek, rfl⟩ := hP5
        obtain ⟨gm6, em6⟩ := gM5.more eNk gk.sub
        obtain ⟨dd, h1, h2⟩ := hy
        unfold strsD at h1 hj
        rw [List.length_map] at hj
        rw [List.getElem?_map, List.getElem?_eq_getElem hj] at h1
        have h1' : PyData.str u.2[j] = dd := Option.some.inj h1
        subst h1'
        obtain rfl := dp_str h2
        have g6 := gk.trans gm6
        obtain ⟨u2, hu2, hu2n⟩ := List.mem_map.mp ((uo.ns u hum).2 _ (List.getElem_mem hj)).1
        obtain ⟨w2, hw2, _⟩ := hus.find uo.nd (m := u.2[j]) (ns := u2.2) (by rw [← hu2n]; exact hu2)
        have hg : DGet (un Mk M6) d (.str u.2[j]) (some w2) := .inl ⟨kvs, .inr u.2[j], .inr ⟨o, g6.up _ _ hd⟩, rfl, hw2.symm⟩
        exact r_skip (N := un Mk M6) (jt_dnin (r := some w2) (hu_of hr) (jv 3) (jv 0) hg) g6.sub fun C7 e7 => r_nil ⟨un Mk M6, _, g6.grow e7, eNk.trans gm6.up, ek.trans gm6.up, rfl⟩
      · subst hσ
        exact r_nil ⟨Mk, _, _, gk, (eNj.trans gm2.up).trans ek, rfl⟩
    · obtain ⟨Mj, o2, o3, gj, eNj, rfl⟩ := hP3
      have hdj := gj.up _ _ hd
      refine r_skip (N := Mj) (JT.is (jt_cmp (v := .int (us.map fun u => (u.2.length : Int)).sum) op_gt (j_cb1 (P := mNL Mj K (F2 (fun k d => d = PyData.int ((us.getD k ("", [])).2.length : Nat)) ((List.range kvs.length).filter fun _ => true))) (cr_sum rfl) B.sum PyProof.Rows.Boot.«sum» ?_ fun v M' g p => ?_) (j_gi G2) rv_I0) (by rw [decide_eq_false_iff_not]; have := sum_le3 uo; omega)) gj.sub fun C4 e4 => r_nil (nx Mj C4 _ (gj.grow e4) rfl)
      · refine j_lc (own := [("names", 2)]) (fun k d => d = PyData.int ((us.getD k ("", [])).2.length : Nat)) (fun _ => true) 2 rfl hN (pi_values pE) (ji_values (J.ev (jv 0)) hdj) (by omega) (blk_by (N := ["uses", "module", "names", "name"]) (sc := defScope (top 42)) (by decide +kernel)) (fun s0 H0 C0 cl fp => pg_name hN rfl (Or.inl rfl)) (fun x => rfl) fun i x M2 hi eM2 hx => ⟨fun s0 H0 C0 cl fp => jts_nil, fun _ s0 H0 C0 cl fp => ?_⟩
        obtain ⟨k, hkv⟩ := hx
        obtain ⟨u, hu, hk, hv⟩ := hus.get hkv
        have hsl : (strsD u.2).length = u.2.length := List.length_map _
        have e : us.getD i ("", []) = u := by rw [List.getD_eq_getElem?_getD, hu] <;> rfl
        rw [e]
        refine (j_lenT (j_var 2 (P := mD K (.tuple (strsD u.2))) (dp_mono (gj.up.trans eM2) hv)) B.len).imp fun y M3 g p => ⟨_, rfl, ?_⟩
        have p' : y = V.int (strsD u.2).length := p
        subst p'
        rw [hsl]
        exact .int _
      · obtain ⟨a, xs, ds, rfl, _, h2, h3, h4⟩ := p
        have hds : ds = (us.map fun u => (u.2.length : Int)).map PyData.int := by
          rw [F2.map h4, List.filter_eq_self.mpr (fun _ _ => rfl), hkl, List.map_map]
          refine List.ext_getElem (by rw [List.length_map, List.length_range, List.length_map]) fun n h1 h2 => ?_
          have hn : n < us.length := by rw [List.length_map] at h2; exact h2
          rw [List.getElem_map, List.getElem_range, List.getElem_map, List.getD_eq_getElem?_getD, List.getElem?_eq_getElem hn]
          rfl
        rw [hds] at h3
        have hxs := dps_ints_inv h3
        subst hxs
        exact fun C0 eC Q q => ⟨a, _, rfl, SqL.of (eC _ _ h2), q _ _ _ (Gr.refl eC) rfl⟩
end
end Gs

set_option Elab.async false
set_option linter.all false
set_option maxRecDepth 100000
set_option maxHeartbeats 4000000
/-! GsInit: Catalog.__init__. -/
namespace Gs
open PySem PySem.Spec PyProof.Rows L2 Evl
/-- no versions yet -/
def w0 (us : List (PySem.Str × List PySem.Str)) : Wr := { us := us, win := fun _ _ => [], cnt := fun _ => 0, wd := fun _ => [] }
section
variable {X : Cx} {e o : Expr} {rest : List Stmt} {σ : L2.St} {N C : Hp} {P : MP} {D : Ends} {pos pos' p : Pos} {x dx Cc d : Addr} {f : PySem.Str} {fs : List (PySem.Str × V)} {kvs : List (Key × V)} {od : Obj}
/-- o.f = e, o an object that the part does not hold -/
theorem r_fld (he : J X e σ N P) (ho : J X o σ N (mIs (.ref x))) (eN : Ex N C) (hN : N x = none) (hC : C x = some (.ins Cc dx fs)) (cl : Cls X.K Cc) (na : NoAttr X.K Cc f) (hl : fs.length < 1000) (k : ∀ v N' C', Gr N C N' C' → N' x = none → P.p v N' → tR X rest D σ (upd C' x (.ins Cc dx (putF f v fs))))
    (hs : swapsWith e (some (.Attribute o f pos')) pos.line X.env = pure false := by rfl) : tR X (.Assign [.Attribute o f pos'] e pos :: rest) D σ C :=
  r_of (ps_fld pE pE hs) (he C eN _ fun v N1 C1 g p => (ho.up g.up).ev C1 g.sub _ fun C2 e2 => ⟨x, Cc, dx, fs, rfl, e2 _ _ (g.ext _ _ hC), cl, na, hl, k v N1 C2 (g.grow e2) (g.outO hN hC fun _ z => by cases z) p⟩)
/-- dict(d), d held fast -/
theorem j_dictFz (he : J X e σ N (mIs (.ref d))) (hd : N d = some (.frz od (.dK kvs))) (hm : X.mg "dict" = none) (hg : Gl X "dict" := by rfl)
    (hs : starEach [e] X.env = (false, eval e X.env) :: starEach [] X.env := by rfl) (hpl : (backTo pos (starEach [] X.env)).any (·.1) = false := by rfl) : J X (.Call (.Name "dict" p) [e] [] pos) σ N (mNew N (.dK kvs)) :=
  j_cty1 call_dictD hm PyProof.Rows.Boot.«dict» he (fun v M g hp => fun C eC Q q => by
    have hp' : v = V.ref d := hp
    subst hp'
    refine ⟨d, kvs, rfl, .inr ⟨od, eC _ _ (g _ _ hd)⟩, fun l hl => ?_⟩
    exact q (.ref l) (upd M l (.dK kvs)) _ ((Gr.refl eC).new hl) ⟨l, rfl, fresh_back g (fresh_back eC hl), upd_same⟩) hg (hs := hs) (hpl := hpl)
/-- [] or {}, new -/
theorem j_newL : J X (.List [] pos) σ N (mNew N (.lst [])) := J.imp (P := mLX N []) (j_lstX ev_as0 (Nat.zero_le _)) fun v M g ⟨l, h1, h2, h3⟩ => ⟨l, h1, h2, h3⟩
theorem j_newD : J X (.Dict [] [] pos) σ N (mNew N (.dK [])) := j_of pe_dnewK fun C eC Q q p hp => q (.ref p) (upd N p (.dK [])) _ ((Gr.refl eC).new hp) ⟨p, rfl, fresh_back eC hp, upd_same⟩
theorem fld_step {N C N' C' : Hp} {x : Addr} {o : HO} (g : Gr N C N' C') (h : N' x = none) : Ex N' (upd C' x o) ∧ (∀ b u, b ≠ x → C b = some u → upd C' x o b = some u) ∧ upd C' x o x = some o := ⟨fun b u e => by rw [upd_ne (ne_of_none e h)]; exact g.sub b u e, fun b u hb e => by rw [upd_ne hb]; exact g.ext b u e, upd_same⟩
end
end Gs

set_option Elab.async false
set_option linter.all false
set_option maxRecDepth 100000
set_option maxHeartbeats 4000000
/-! GsCm2: a dict comprehension of two clauses, new objects. -/
namespace Gs
open PySem PySem.Spec PyProof.Rows L2 Evl
/-- a dict with keys of two, new objects as its values; done the keys so far, at most so many -/
def RtOk (B : Hp) (ob : HO) (M : Hp) (o : HO) (done : List (List Key)) (b : Nat) : Prop := ∃ kvs adr, o = .dT kvs ∧ kvs.length ≤ b ∧ RefsOk B kvs adr ob M done
theorem RtOk.mono {B : Hp} {ob : HO} {M M' : Hp} {o : HO} {done : List (List Key)} {b : Nat} (h : RtOk B ob M o done b) (e : Ex M M') : RtOk B ob M' o done b := by
  obtain ⟨kvs, adr, h1, h2, h3⟩ := h
  exact ⟨kvs, adr, h1, h2, h3.mono e⟩
theorem RtOk.nt {B : Hp} {ob : HO} {M : Hp} {o : HO} {done : List (List Key)} {b : Nat} (h : RtOk B ob M o done b) : ∀ xs, o ≠ .tup xs := fun xs z => by
  obtain ⟨_, _, rfl, _⟩ := h; cases z
def obT (B : Hp) (f : Nat → List (List Key)) (ob : HO) (c : Nat) : OB := ⟨fun _ M i o => RtOk B ob M o (f i) (c * i), fun e h => h.mono e, fun h => h.nt⟩
/-- a step beside D, whatever stands at D -/
theorem Gr.swap {N C N' C' : Hp} (g : Gr N C N' C') {D : Addr} {o1 o2 : HO} (h1 : C D = some o1) (h2 : N' D = none) : Gr N (upd C D o2) N' (upd C' D o2) := ⟨g.up, fun b u e => by
  rw [upd_ne (ne_of_none e h2)]; exact g.sub b u e, fun b u e => by
  by_cases z : b = D
  · subst z; rw [upd_same] at e ⊢; exact e
  · rw [upd_ne z] at e ⊢; exact g.ext b u e, fun b u e => by
  rcases g.dom b u e with h | h | h
  · exact .inl h
  · refine .inr (.inl ?_)
    rw [upd_ne (fun z => by rw [z, h1] at h; cases h)]; exact h
  · exact .inr (.inr h)⟩
theorem upd_upd {H : Hp} {D : Addr} {o o' : HO} (h : H D = some o') : upd (upd H D o) D o' = H := by
  funext b
  by_cases z : b = D
  · subst z; rw [upd_same]; exact h.symm
  · rw [upd_ne z, upd_ne z]
theorem upd_upd2 {H : Hp} {D : Addr} {o o' : HO} : upd (upd H D o') D o = upd H D o := by
  funext b
  by_cases z : b = D
  · subst z; rw [upd_same, upd_same]
  · rw [upd_ne z, upd_ne z, upd_ne z]
theorem upd_id {H : Hp} {D : Addr} {o : HO} (h : H D = some o) : upd H D o = H := by
  funext b
  by_cases z : b = D
  · subst z; rw [upd_same]; exact h.symm
  · rw [upd_ne z]
/-- the inner loop of it -/
theorem tb2_ok {B : Hp} {f : Nat → List (List Key)} {ob : HO} {c : Nat} {wi1 : TI} {g1 : TG} {tt1 : TT} {tk tv : TE} {vs1 : List Nat} {σ : L2.St} {M : Hp} {i n : Nat} {I1 : Nat → MP} {ks : List (List Key)} (hB0 : Ex B M) (hks : ks.length = n) (hf : f (i + 1) = f i ++ ks) (hn : n ≤ c) (hi : c * i < 1000) (hc : c < 1000) (hw : JI wi1 σ M n I1)
    (body : ∀ j x M2, j < n → Ex M M2 → (I1 j).p x M2 → ∀ C, Ex M2 C → g1 x (wipe σ vs1) C fun σ2 C2 => wipe σ2 vs1 = wipe σ vs1 ∧ ∃ M3, Gr M2 C M3 C2 ∧ EvT tt1 σ2 M3 true ∧ ∃ k, ks[j]? = some k ∧ EvU tk σ2 M3 (k.map kV) ∧ EvP tv σ2 M3 (mNew M3 ob))
    (gm : ∀ x s C (Q Q' : L2.St → Hp → Prop), (∀ a b, Q a b → Q' a b) → g1 x s C Q → g1 x s C Q') : TbOk (obT B f ob c) (tb2 wi1 g1 tt1 (tbD tk tv) vs1) σ M i := fun D o C eC hM hC hB Nx q => hw C eC _ fun Jt N1 C1 gr wk => by
  have hN1 : N1 D = none := gr.outO hM hC (RtOk.nt hB)
  let Pv : Nat → Hp → Prop := fun j H => ∃ (Mi : Hp) (o' : HO), Gr M C Mi (upd H D o) ∧ Ex N1 Mi ∧ Mi D = none ∧ H D = some o' ∧ RtOk B ob Mi o' (f i ++ ks.take j) (c * i + j)
  refine ⟨fun j m H => j + m = n ∧ Pv j H, ⟨n, Nat.zero_add n, N1, o, by rw [upd_id (gr.ext _ _ hC)]; exact gr, Ex.refl _, hN1, gr.ext _ _ hC, by rw [List.take_zero, List.append_nil]; exact (RtOk.mono hB gr.up)⟩, fun j m H ⟨hjm, Mi, o', gi, eNi, hMi, hH, hR⟩ => ?_⟩
  have eMH : Ex Mi H := fun b u e => by
    have := gi.sub b u e
    rw [upd_ne (ne_of_none e hMi)] at this
    exact this
  have eN1 : Ex N1 H := eNi.trans eMH
  cases m with
  | zero =>
    have hj : j = n := by omega
    subst hj
    refine .inl ⟨wk.stop H eN1, ?_⟩
    rw [show ks.take j = ks by rw [← hks, List.take_length]] at hR
    have h := q Mi o' _ gi (show RtOk B ob Mi o' (f (i + 1)) (c * (i + 1)) by
      rw [hf]
      obtain ⟨kvs, adr, h1, h2, h3⟩ := hR
      exact ⟨kvs, adr, h1, by rw [Nat.mul_succ]; omega, h3⟩)
    rw [upd_upd hH] at h
    exact h
  | succ m =>
    refine .inr ⟨wk.go j H (by omega) eN1, fun H' => Pv (j + 1) H', fun H' h => ⟨m, by omega, by omega, h⟩, fun x H' y => ?_⟩
    obtain ⟨M2, gM, hp⟩ := wk.yld j H x H' (by omega) eN1 y
    obtain ⟨g1', e1⟩ := gM.more eNi eMH
    refine gm _ _ _ _ _ (fun σ2 C2 hh => ?_) (body j x (un Mi M2) (by omega) (gi.up.trans g1'.up) ((I1 j).mono e1 hp) H' g1'.sub)
    obtain ⟨hwp, M3, g2, ht, k, hk, hkk, hvv⟩ := hh
    refine ⟨hwp, ht C2 g2.sub _ fun C3 e3 => iteT ?_⟩
    have g3 : Gr Mi H M3 C3 := g1'.trans (g2.grow e3)
    obtain ⟨kvs, adr, rfl, hl, hR⟩ := hR
    refine hkk C3 g3.sub _ fun p H4 hp e4 h4 => hvv H4 (g3.sub.trans e4) _ fun v M5 C5 g5 ⟨a, hv, ha1, ha2⟩ => ?_
    subst hv
    have g35 : Gr Mi H M5 C5 := (g3.grow e4).trans g5
    have h5D : M5 D = none := g35.outO hMi hH fun _ z => by cases z
    have hT : ks.take (j + 1) = ks.take j ++ [k] := by rw [List.take_succ, hk]; rfl
    have hR' := hR.put (k := k) (g3.up.trans g5.up) (M' := M5) (q := a) (fresh_back g3.up ha1) ha2 (fresh_back (hB0.trans (gi.up.trans g3.up)) ha1)
    rw [List.append_assoc, ← hT] at hR'
    refine ⟨_, .t (g35.ext _ _ hH) (g5.ext _ _ h4) (sz_lt (by omega)), M5, _, ?_, eNi.trans g35.up, h5D, upd_same, _, _, rfl, by have := length_putK kvs k (.ref a); omega, hR'⟩
    rw [upd_upd2]
    exact gi.trans (g35.swap hH h5D)
end Gs

set_option Elab.async false
set_option linter.all false
set_option maxRecDepth 100000
set_option maxHeartbeats 4000000
/-! GsInit2: Catalog.__init__. -/
namespace Gs
open PySem PySem.Spec PyProof.Rows L2 Evl
theorem del_le {H : Hp} {x : Addr} : Ex (L2.del H x) H := fun b u e => by
  by_cases z : b = x
  · subst z; rw [del_same] at e; cases e
  · rw [del_ne z] at e; exact e
theorem putF_past {f g : PySem.Str} {v x : V} {r : List (PySem.Str × V)} (h : ¬ g = f) : putF f v ((g, x) :: r) = (g, x) :: putF f v r := if_neg h
/-- all of it is new, but the object itself -/
structure NewAt (C : Hp) (a : CatA) (W : Wr) : Prop where
  ut : C a.ut = none
  wt : C a.wt = none
  ct : C a.ct = none
  wd : C a.wd = none
  rc : C a.rc = none
  l : ∀ m ns n, (m, ns) ∈ W.us → n ∈ ns → C (a.l m n) = none
  d : ∀ m, m ∈ W.mods → C (a.d m) = none
def spInit (K : PySem.W.Frag) (Cc : Addr) : Sp := fun vs C Q _ => ∃ (x dx d : Addr) (us : List (PySem.Str × List PySem.Str)) (kvs : List (Key × V)), vs = [.ref x, .ref d] ∧ C x = some (.ins Cc dx []) ∧ C d = some (.dK kvs) ∧ UsAt K C us kvs ∧ UsOk us ∧
  ∀ (a : CatA) (C' : Hp), a.c = x → CatAt K Cc C' a (w0 us) → CatDs a (w0 us) → RecLe C' a 0 → NewAt C a (w0 us) → (∀ b o, b ≠ x → b ≠ d → C b = some o → C' b = some o) → Q .non C'
/-- the keys of the window table: those of the first i modules -/
def wKeys (us : List (PySem.Str × List PySem.Str)) (i : Nat) : List (List Key) := (us.take i).flatMap fun u => u.2.map fun n => [Sum.inr u.1, Sum.inr n]
theorem wKeys_succ {us : List (PySem.Str × List PySem.Str)} {i : Nat} {u : PySem.Str × List PySem.Str} (h : us[i]? = some u) : wKeys us (i + 1) = wKeys us i ++ u.2.map fun n => [Sum.inr u.1, Sum.inr n] := by
  unfold wKeys
  rw [List.take_succ, h, List.flatMap_append]
  exact congrArg _ (List.append_nil _)
theorem wKeys_mem {us : List (PySem.Str × List PySem.Str)} {m n : PySem.Str} {ns : List PySem.Str} (h1 : (m, ns) ∈ us) (h2 : n ∈ ns) : [Sum.inr m, Sum.inr n] ∈ wKeys us us.length := by
  unfold wKeys
  rw [List.take_length]
  exact List.mem_flatMap.mpr ⟨_, h1, List.mem_map.mpr ⟨n, h2, rfl⟩⟩
end Gs

set_option Elab.async false
set_option linter.all false
set_option maxRecDepth 100000
set_option maxHeartbeats 4000000
/-! GsInit3: Catalog.__init__. -/
namespace Gs
open PySem PySem.Spec PyProof.Rows L2 Evl
section
variable {P : Program} {w : World} {K : PySem.W.Frag} {mg : PySem.Str → Option Value} {base : Heap} {Cc : Addr}
theorem ok_init {fI : Addr} {fd : FuncData} (F : L2.Fun K "__init__" "Catalog.__init__" (inClass (top 44) 0) fI fd) (B : Bt mg) (T : CatC K Cc) (c1 : Cl P w K mg base 3 "check_uses" (preChkU K)) : FnOk P w K mg base L2.CX0 4 fI fd ["self", "uses"] (spInit K Cc) := by
  refine fnok_of (N := ["self", "uses", "user", "names", "used", "module"]) F (by decide +kernel) (fun vs C Q E h => ?_) fun cdv A outer s C E vs Q hr h => ?_
  · obtain ⟨x, dx, d, us, kvs, rfl, _⟩ := h; rfl
  obtain ⟨x, dx, d, us, kvs, rfl, hx, hd, hus, uo, q⟩ := h
  have hN : (["self", "uses", "user", "names", "used", "module"] : List PySem.Str).Nodup := by decide
  have exd : x ≠ d := ne_ob hx hd fun z => by cases z
  have hkl : kvs.length = us.length := hus.len
  have hfew := uo.few
  refine r_freeze hd trivial fun od => ?_
  have hx1 : (upd C d (.frz od (.dK kvs))) x = some (.ins Cc dx []) := by rw [upd_ne exd]; exact hx
  have hd1 : (upd C d (.frz od (.dK kvs))) d = some (.frz od (.dK kvs)) := upd_same
  have fr1 : ∀ b o, b ≠ x → b ≠ d → C b = some o → (upd C d (.frz od (.dK kvs))) b = some o := fun b o _ h2 h => by rw [upd_ne h2]; exact h
  generalize upd C d (.frz od (.dK kvs)) = C1 at hx1 hd1 fr1
  have ft1 : ∀ b o, isT o → C b = some o → (L2.del C1 x) b = some o := fun b o t h => by
    have h1 : b ≠ x := fun z => by rw [z, hx] at h; cases h; obtain ⟨_, t | ⟨_, t⟩⟩ := t <;> cases t
    have h2 : b ≠ d := fun z => by rw [z, hd] at h; cases h; exact isT_dK t
    rw [del_ne h1]; exact fr1 b o h1 h2 h
  have hus1 : UsAt K (L2.del C1 x) us kvs := hus.mono2 fun u kv ⟨e1, e2⟩ => ⟨e1, dp_tups ft1 (noL_strs _) e2⟩
  have hdN : (L2.del C1 x) d = some (.frz od (.dK kvs)) := by rw [del_ne exd.symm]; exact hd1
  refine r_drop (N := L2.del C1 x) (P := mIs .non) (j_call c1 hr (ja_cons (P := mIs (.ref d)) (jv 1) ja_nil) fun vs M' g p => ?_) del_le fun v N2 C2 g2 p2 => ?_
  · obtain ⟨y, rfl, hy⟩ := la1 p
    have hy' : y = V.ref d := hy
    subst hy'
    exact ⟨d, od, us, kvs, rfl, g _ _ hdN, hus1.mono2 fun u kv ⟨e1, e2⟩ => ⟨e1, dp_mono g e2⟩, uo, rfl⟩
  have hx2 : C2 x = some (.ins Cc dx []) := g2.ext _ _ hx1
  have hN2x : N2 x = none := g2.outO del_same hx1 fun _ z => by cases z
  refine r_fld (N := N2) (P := mNew N2 (.dK kvs)) (j_dictFz (jv 1) (g2.up _ _ hdN) B.dict) (jv 0) g2.sub hN2x hx2 T.cl T.n1 (by show 0 < 1000; decide) fun v N3 C3 g3 hN3x p3 => ?_
  obtain ⟨ut, rfl, hut0, hut⟩ := p3
  have e3 : Ex N3 (upd C3 x (.ins Cc dx (putF "use_table" (.ref ut) []))) := fun b u h => by rw [upd_ne (ne_of_none h hN3x)]; exact g3.sub b u h
  have fr3 : ∀ b o, b ≠ x → b ≠ d → C b = some o → (upd C3 x (.ins Cc dx (putF "use_table" (.ref ut) []))) b = some o := fun b o h1 h2 h => by rw [upd_ne h1]; exact g3.ext _ _ (g2.ext _ _ (fr1 b o h1 h2 h))
  have hx3 : (upd C3 x (.ins Cc dx (putF "use_table" (.ref ut) []))) x = some (.ins Cc dx [("use_table", .ref ut)]) := upd_same
  generalize upd C3 x (.ins Cc dx (putF "use_table" (.ref ut) [])) = C3' at e3 fr3 hx3
  have hd3 : N3 d = some (.frz od (.dK kvs)) := (g2.up.trans g3.up) _ _ hdN
  have hus3 : UsAt K N3 us kvs := hus1.mono2 fun u kv ⟨e1, e2⟩ => ⟨e1, dp_mono (g2.up.trans g3.up) e2⟩
  refine r_fld (N := N3) (P := mOb N3 (obT N3 (wKeys us) (.lst []) 3) kvs.length) (j_of (pe_dc2T (g := gTup K 2 (gCons (gName 2) (gCons (gName 3) gNil))) (own := [("user", 2), ("names", 3), ("used", 4)]) (vs1 := [4]) (g1 := gName 4) (wi1 := iTup K (tEb _ _ _)) (hu_of hr) rfl hN (pi_items pE) (blk_by (N := ["self", "uses", "user", "names", "used", "module"]) (sc := defScope (inClass (top 44) 0)) (by decide +kernel)) (by decide) (fun s0 H0 C0 cl fp => pg_tup rfl (pgs_cons (pg_name (i := 2) hN rfl (Or.inl rfl)) (pgs_cons (pg_name (i := 3) hN rfl (Or.inl rfl)) pgs_nil))) pTsb (fun s0 H0 C0 cl fp => pi_tup (pEb s0 H0 C0 cl fp)) (fun s0 H0 C0 cl fp => pg_name (i := 4) hN rfl (Or.inl rfl)) pTsb pEb pEb) (ep_cm _ (ji_items (J.ev (jv 1)) hd3) (fun D M' e => ⟨[], fun _ => 0, rfl, Nat.le_refl _, fun k hk => (by cases hk), fun k hk => (by cases hk)⟩) (fun i y M hi hM hy C0 eC => ?_) gm_tup2)) (jv 0) e3 hN3x hx3 T.cl T.n2 (by show 1 < 1000; decide) fun v N4 C4 g4 hN4x p4 => ?_
  · obtain ⟨Tb, k, v, hkv, rfl, hT⟩ := hy
    obtain ⟨u, hu, hk, hv⟩ := hus3.get hkv
    have hk' : k = .inr u.1 := hk
    subst hk'
    have hum : u ∈ us := List.mem_of_getElem? hu
    have hsl : (strsD u.2).length = u.2.length := List.length_map _
    refine gp2 (SqT.of (eC _ _ hT)) ⟨rfl, M, Gr.refl eC, evt fun s0 H0 C0 cl fp => jts_nil, ?_⟩
    refine tb2_ok (n := (strsD u.2).length) (ks := u.2.map fun n => [Sum.inr u.1, Sum.inr n]) (I1 := fun j => mR K fun d => (strsD u.2)[j]? = some d) hM (by rw [List.length_map, hsl]) (wKeys_succ hu) (by rw [hsl]; exact uo.len hum) (by omega) (by decide) (ji_tup (evb (P := mD K (.tuple (strsD u.2))) fun s0 H0 C0 cl fp => j_var 3 (dp_mono hM hv))) (fun j y2 M2 hj eM2 hy2 C2 eC2 => ?_) gm_name
    obtain ⟨dd, h1, h2⟩ := hy2
    have hj' : j < u.2.length := by omega
    unfold strsD at h1
    rw [List.getElem?_map, List.getElem?_eq_getElem hj'] at h1
    have h1' : PyData.str u.2[j] = dd := Option.some.inj h1
    subst h1'
    obtain rfl := dp_str h2
    refine ⟨rfl, M2, Gr.refl eC2, evt fun s0 H0 C0 cl fp => jts_nil, [.inr u.1, .inr u.2[j]], by rw [List.getElem?_map, List.getElem?_eq_getElem hj']; rfl, fun H1 e1 Q q s0 H0 C0 cl fp => ?_, evb (P := mNew M2 (.lst [])) fun s0 H0 C0 cl fp => j_newL⟩
    refine le_E (pe_tup (pa_cons pE (pa_cons pE pa_nil))) ?_
    exact eu_tup (ea_cons (J.ev (jv 2)) (ea_cons (J.ev (jv 4)) ea_nil)) (by show 2 ≤ 100000; decide) H1 e1 Q q
  · obtain ⟨wt, ow, rfl, hwt0, hwt, kvT, adr, rfl, hTl, hT1, hT2⟩ := p4
    have pf4 : putF "window_table" (V.ref wt) [("use_table", V.ref ut)] = ([("use_table", V.ref ut), ("window_table", V.ref wt)] : List (PySem.Str × V)) := putF_past (by decide +kernel)
    rw [pf4]
    obtain ⟨e4, fr4, hx4⟩ := fld_step (o := .ins Cc dx [("use_table", V.ref ut), ("window_table", V.ref wt)]) g4 hN4x
    generalize upd C4 x (.ins Cc dx [("use_table", V.ref ut), ("window_table", V.ref wt)]) = C4' at e4 fr4 hx4
    have hd4 : N4 d = some (.frz od (.dK kvs)) := g4.up _ _ hd3
    have kl : (us.map fun u : PySem.Str × List PySem.Str => (Sum.inr u.1 : Key)).length = us.length := List.length_map _
    refine r_fld (N := N4) (P := mOb N4 (obV (us.map fun u => .inr u.1) (.int 0)) kvs.length) (j_of (pe_dcK (g := gName 5) (own := [("module", 5)]) (hu_of hr) rfl hN (pi_keys pE) (blk_by (N := ["self", "uses", "user", "names", "used", "module"]) (sc := defScope (inClass (top 44) 0)) (by decide +kernel)) (fun s0 H0 C0 cl fp => pg_name (i := 5) hN rfl (Or.inl rfl)) pTsb pEb pEb) (ep_cm _ (ji_keys (J.ev (jv 1)) hd4) (fun D M' e => ⟨[], rfl, Nat.le_refl _, fun k hk => (by cases hk)⟩) (fun i y M hi hM hy C0 eC => ?_) gm_name)) (jv 0) e4 hN4x hx4 T.cl T.n3 (by show 2 < 1000; decide) fun v N5 C5 g5 hN5x p5 => ?_
    · obtain ⟨k, v, hkv, rfl⟩ := hy
      obtain ⟨u, hu, hk, _⟩ := hus3.get hkv
      have hk' : k = .inr u.1 := hk
      subst hk'
      exact ⟨rfl, M, Gr.refl eC, evt fun s0 H0 C0 cl fp => jts_nil, tbV_ok (k := .inr u.1) (by rw [List.getElem?_map, hu] <;> rfl) (by omega) (ev_ep (evb (P := mIs (.str u.1)) fun s0 H0 C0 cl fp => jv 5)) (ev_ep (evb (P := mIs (.int 0)) fun s0 H0 C0 cl fp => j_int))⟩
    obtain ⟨ct, oc, rfl, hct0, hct, kvC, rfl, hCl, hC1⟩ := p5
    have pf5 : putF "count_table" (V.ref ct) [("use_table", V.ref ut), ("window_table", V.ref wt)] = ([("use_table", V.ref ut), ("window_table", V.ref wt), ("count_table", V.ref ct)] : List (PySem.Str × V)) := (putF_past (by decide +kernel)).trans (congrArg _ (putF_past (by decide +kernel)))
    rw [pf5]
    obtain ⟨e5, fr5, hx5⟩ := fld_step (o := .ins Cc dx [("use_table", V.ref ut), ("window_table", V.ref wt), ("count_table", V.ref ct)]) g5 hN5x
    generalize upd C5 x (.ins Cc dx [("use_table", V.ref ut), ("window_table", V.ref wt), ("count_table", V.ref ct)]) = C5' at e5 fr5 hx5
    have hd5 : N5 d = some (.frz od (.dK kvs)) := g5.up _ _ hd4
    refine r_fld (N := N5) (P := mOb N5 (obR N5 (us.map fun u => .inr u.1) (.dK [])) kvs.length) (j_of (pe_dcK (g := gName 5) (own := [("module", 5)]) (hu_of hr) rfl hN (pi_keys pE) (blk_by (N := ["self", "uses", "user", "names", "used", "module"]) (sc := defScope (inClass (top 44) 0)) (by decide +kernel)) (fun s0 H0 C0 cl fp => pg_name (i := 5) hN rfl (Or.inl rfl)) pTsb pEb pEb) (ep_cm _ (ji_keys (J.ev (jv 1)) hd5) (fun D M' e => ⟨[], fun _ => 0, rfl, Nat.le_refl _, fun k hk => (by cases hk), fun k hk => (by cases hk)⟩) (fun i y M hi hM hy C0 eC => ?_) gm_name)) (jv 0) e5 hN5x hx5 T.cl T.n4 (by show 3 < 1000; decide) fun v N6 C6 g6 hN6x p6 => ?_
    · obtain ⟨k, v, hkv, rfl⟩ := hy
      obtain ⟨u, hu, hk, _⟩ := hus3.get hkv
      have hk' : k = .inr u.1 := hk
      subst hk'
      exact ⟨rfl, M, Gr.refl eC, evt fun s0 H0 C0 cl fp => jts_nil, tbR_ok (k := .inr u.1) hM (by rw [List.getElem?_map, hu] <;> rfl) (by omega) (ev_ep (evb (P := mIs (.str u.1)) fun s0 H0 C0 cl fp => jv 5)) (evb (P := mNew M (.dK [])) fun s0 H0 C0 cl fp => j_newD)⟩
    obtain ⟨wd, ow, rfl, hwd0, hwd, kvD, adD, rfl, hDl, hD1, hD2⟩ := p6
    have pf6 : putF "withdrawn_table" (V.ref wd) [("use_table", V.ref ut), ("window_table", V.ref wt), ("count_table", V.ref ct)] = ([("use_table", V.ref ut), ("window_table", V.ref wt), ("count_table", V.ref ct), ("withdrawn_table", V.ref wd)] : List (PySem.Str × V)) := (putF_past (by decide +kernel)).trans (congrArg _ ((putF_past (by decide +kernel)).trans (congrArg _ (putF_past (by decide +kernel)))))
    rw [pf6]
    obtain ⟨e6, fr6, hx6⟩ := fld_step (o := .ins Cc dx [("use_table", V.ref ut), ("window_table", V.ref wt), ("count_table", V.ref ct), ("withdrawn_table", V.ref wd)]) g6 hN6x
    generalize upd C6 x (.ins Cc dx [("use_table", V.ref ut), ("window_table", V.ref wt), ("count_table", V.ref ct), ("withdrawn_table", V.ref wd)]) = C6' at e6 fr6 hx6
    refine r_fld (N := N6) (P := mNew N6 (.lst [])) j_newL (jv 0) e6 hN6x hx6 T.cl T.n5 (by show 4 < 1000; decide) fun v N7 C7 g7 hN7x p7 => ?_
    obtain ⟨rc, rfl, hrc0, hrc⟩ := p7
    have pf7 : putF "record" (V.ref rc) [("use_table", V.ref ut), ("window_table", V.ref wt), ("count_table", V.ref ct), ("withdrawn_table", V.ref wd)] = ([("use_table", V.ref ut), ("window_table", V.ref wt), ("count_table", V.ref ct), ("withdrawn_table", V.ref wd), ("record", V.ref rc)] : List (PySem.Str × V)) := (putF_past (by decide +kernel)).trans (congrArg _ ((putF_past (by decide +kernel)).trans (congrArg _ ((putF_past (by decide +kernel)).trans (congrArg _ (putF_past (by decide +kernel)))))))
    rw [pf7]
    obtain ⟨e7, fr7, hx7⟩ := fld_step (o := .ins Cc dx [("use_table", V.ref ut), ("window_table", V.ref wt), ("count_table", V.ref ct), ("withdrawn_table", V.ref wd), ("record", V.ref rc)]) g7 hN7x
    generalize upd C7 x (.ins Cc dx [("use_table", V.ref ut), ("window_table", V.ref wt), ("count_table", V.ref ct), ("withdrawn_table", V.ref wd), ("record", V.ref rc)]) = C7' at e7 fr7 hx7
    have e47 : Ex N4 N7 := g5.up.trans (g6.up.trans g7.up)
    have hut7 : N7 ut = some (.dK kvs) := (g4.up.trans e47) _ _ hut
    have hus7 : UsAt K N7 us kvs := hus3.mono2 fun u kv ⟨e1, e2⟩ => ⟨e1, dp_mono (g4.up.trans e47) e2⟩
    refine r_freeze (e7 _ _ hut7) trivial fun od2 => r_nil ?_
    have cN : ∀ b, N2 b = none → b ≠ x → C b = none := fun b h1 h2 => by
      cases h : C b with
      | none => rfl
      | some o =>
        have h3 : ∃ o', C1 b = some o' := by
          by_cases z : b = d
          · subst z; exact ⟨_, hd1⟩
          · exact ⟨o, fr1 b o h2 z h⟩
        obtain ⟨o', h3⟩ := h3
        have h4 := g2.up b o' (by rw [del_ne h2]; exact h3)
        rw [h1] at h4; cases h4
    have hut' : N4 ut = some (.dK kvs) := g4.up _ _ hut
    have hct5 : N5 ct = some (.dK kvC) := hct
    have k8 : ∀ {b : Addr} {o : HO}, b ≠ ut → C7' b = some o → (upd C7' ut (.frz od2 (.dK kvs))) b = some o := fun h1 h2 => by rw [upd_ne h1]; exact h2
    have hu8 : (upd C7' ut (.frz od2 (.dK kvs))) ut = some (.frz od2 (.dK kvs)) := upd_same
    generalize upd C7' ut (.frz od2 (.dK kvs)) = C8 at k8 hu8
    have nu : ∀ {b : Addr} {o : HO}, N7 b = some o → o ≠ .dK kvs → b ≠ ut := fun h1 h2 => ne_ob h1 hut7 h2
    have nx7 : ∀ {b : Addr} {o : HO}, N7 b = some o → b ≠ x := fun h1 z => by rw [z, hN7x] at h1; cases h1
    have hwt7 : N7 wt = some (.dT kvT) := e47 _ _ hwt
    have hct7 : N7 ct = some (.dK kvC) := (g6.up.trans g7.up) _ _ hct
    have hwd7 : N7 wd = some (.dK kvD) := g7.up _ _ hwd
    have hul : kvs.length = us.length := hkl
    have lk : ∀ m ns n, (m, ns) ∈ us → n ∈ ns → valV kvT [.inr m, .inr n] = some (.ref (adr [.inr m, .inr n])) ∧ N4 (adr [.inr m, .inr n]) = some (.lst []) ∧ N3 (adr [.inr m, .inr n]) = none := fun m ns n h1 h2 => by
      have h := hT1 [.inr m, .inr n] (by rw [hul]; exact wKeys_mem h1 h2)
      exact ⟨h.1, del_le _ _ h.2.1, h.2.2⟩
    have km : ∀ m, m ∈ us.map (·.1) → (Sum.inr m : Key) ∈ (us.map fun u : PySem.Str × List PySem.Str => (Sum.inr u.1 : Key)).take kvs.length := fun m hm => by
      rw [hul, ← kl, List.take_length]
      obtain ⟨u, hu, rfl⟩ := List.mem_map.mp hm
      exact List.mem_map.mpr ⟨u, hu, rfl⟩
    have dk : ∀ m, m ∈ us.map (·.1) → valV kvD (.inr m) = some (.ref (adD (.inr m))) ∧ N6 (adD (.inr m)) = some (.dK []) ∧ N5 (adD (.inr m)) = none ∧ adD (.inr m) ≠ wd := fun m hm => by
      have h := hD1 (.inr m) (km m hm)
      exact ⟨h.1, del_le _ _ h.2.1, h.2.2, fun z => by have h2 := h.2.1; rw [z, del_same] at h2; cases h2⟩
    have nctu : ct ≠ ut := fun z => by rw [z, hut'] at hct0; cases hct0
    have nwdu : wd ≠ ut := fun z => by rw [z, g5.up _ _ hut'] at hwd0; cases hwd0
    have back : ∀ {b : Addr}, N3 b = none → N2 b = none := fun h => fresh_back g3.up h
    refine q ⟨x, dx, ut, wt, ct, wd, rc, fun m n => adr [.inr m, .inr n], fun m => adD (.inr m)⟩ C8 rfl ⟨?_, ?_, ?_, ?_, ?_, ?_, ?_, ?_⟩ ⟨?_, ?_, ?_, ?_, ?_, ?_⟩ ?_ ⟨?_, ?_, ?_, ?_, ?_, ?_, ?_⟩ ?_
    · exact k8 (nx7 hut7).symm hx7
    · refine ⟨od2, kvs, hu8, hus7.mono2 fun u kv ⟨e1, e2⟩ => ⟨e1, dp_tups (fun b o t h => k8 (nu h fun z => isT_dK (z ▸ t)) (e7 _ _ h)) (noL_strs _) e2⟩⟩
    · exact ⟨kvT, k8 (nu hwt7 fun z => by cases z) (e7 _ _ hwt7), fun m ns n h1 h2 => (lk m ns n h1 h2).1⟩
    · intro m ns n h1 h2
      have h3 := e47 _ _ (lk m ns n h1 h2).2.1
      exact ⟨[], k8 (nu h3 fun z => by cases z) (e7 _ _ h3), .nil⟩
    · refine ⟨kvC, k8 nctu (e7 _ _ hct7), by omega, fun m hm => hC1 _ (km m hm)⟩
    · exact ⟨kvD, k8 nwdu (e7 _ _ hwd7), fun m hm => (dk m hm).1⟩
    · intro m hm
      have h3 := g7.up _ _ (dk m hm).2.1
      refine ⟨[], k8 (fun z => ?_) (e7 _ _ h3), Nat.le_refl _, fun i => by simp [w0, valV]⟩
      have z' : adD (.inr m) = ut := z
      have h4 := (dk m hm).2.2.1
      rw [z', g5.up _ _ hut'] at h4; cases h4
    · exact ⟨[], k8 (nu hrc fun z => by cases z) (e7 _ _ hrc), Nat.zero_le _⟩
    · intro z
      have z' : wd = ct := z
      rw [z', hct5] at hwd0; cases hwd0
    · intro m hm z
      have z' : adD (.inr m) = ct := z
      have h4 := (dk m hm).2.2.1
      rw [z', hct5] at h4; cases h4
    · exact fun m hm => (dk m hm).2.2.2
    · exact fun m hm n hn h => hD2 _ (km m hm) _ (km n hn) fun z => h (Sum.inr.inj z)
    · intro m ns n h1 h2 z
      have z' : adr [.inr m, .inr n] = rc := z
      have h3 := (g5.up.trans g6.up) _ _ (lk m ns n h1 h2).2.1
      rw [z', hrc0] at h3; cases h3
    · intro m ns n m' ns' n' h1 h2 h3 h4 hne
      refine hT2 _ (by rw [hul]; exact wKeys_mem h1 h2) _ (by rw [hul]; exact wKeys_mem h3 h4) fun z => hne ?_
      injection z with z1 z2
      injection z2 with z2 _
      rw [Sum.inr.inj z1, Sum.inr.inj z2]
    · exact ⟨[], k8 (nu hrc fun z => by cases z) (e7 _ _ hrc), Nat.le_refl _⟩
    · exact cN _ hut0 (nx7 hut7)
    · exact cN _ (back hwt0) (nx7 hwt7)
    · exact cN _ (back (fresh_back g4.up hct0)) (nx7 hct7)
    · exact cN _ (back (fresh_back (g4.up.trans g5.up) hwd0)) (nx7 hwd7)
    · exact cN _ (back (fresh_back (g4.up.trans (g5.up.trans g6.up)) hrc0)) (nx7 hrc)
    · exact fun m ns n h1 h2 => cN _ (back (lk m ns n h1 h2).2.2) (nx7 (e47 _ _ (lk m ns n h1 h2).2.1))
    · exact fun m hm => cN _ (back (fresh_back (g4.up.trans g5.up) (dk m hm).2.2.1)) (nx7 (g7.up _ _ (dk m hm).2.1))
    · intro b o h1 h2 h
      have hb : b ≠ ut := fun z => by rw [z, cN _ hut0 (nx7 hut7)] at h; cases h
      exact k8 hb (fr7 b o h1 (fr6 b o h1 (fr5 b o h1 (fr4 b o h1 (fr3 b o h1 h2 h)))))
end
end Gs

set_option Elab.async false
set_option linter.all false
set_option maxRecDepth 100000
set_option maxHeartbeats 4000000
/-! GsEff: calls that change their own part; new parts; a catalog is made. -/
namespace Gs
open PySem PySem.Spec PyProof.Rows L2 Evl
theorem Mu.pre {N C C1 N' C' : Hp} (e : Ex C C1) (m : Mu N C1 N' C') : Mu N C N' C' := ⟨m.sub, fun b o h1 h2 => m.frame b o h1 (e _ _ h2), fun b o t h => m.keep b o t (e _ _ h), fun b o h => by
  rcases m.dom b o h with h | h | h
  · exact .inl h
  · exact .inr (.inl (fresh_back e h))
  · exact .inr (.inr h)⟩
theorem Apart.of {N F F' : Hp} (a : Apart N F') (e : Ex F F') : Apart N F := fun b o h => a b o (e _ _ h)
theorem Apart.flip {N F C : Hp} (a : Apart N F) (eN : Ex N C) (eF : Ex F C) : Apart F N := fun b o h => by
  cases hF : F b with
  | none => exact .inl rfl
  | some u =>
    have : u = o := by have h1 := eF _ _ hF; rw [eN _ _ h] at h1; exact (Option.some.inj h1).symm
    subst this
    rcases a b u hF with h1 | h1
    · rw [h] at h1; cases h1
    · exact .inr h1
theorem un_of {M N : Hp} {b : Addr} {o : HO} (h : un M N b = some o) : M b = some o ∨ N b = some o := by
  unfold un at h
  split at h
  · rename_i u hu; cases h; exact .inl hu
  · exact .inr h
theorem un_none {M N : Hp} {b : Addr} (h : un M N b = none) : M b = none ∧ N b = none := by
  unfold un at h
  split at h
  · cases h
  · rename_i hu; exact ⟨hu, h⟩
theorem Mu.left {N C N' C' W : Hp} (m : Mu N C N' C') (eW : Ex W C') : Mu (un N W) C (un N' W) C' := ⟨un_sub m.sub eW, fun b o h1 h2 => m.frame b o (un_none h1).1 h2, m.keep, fun b o h => by
  rcases un_of h with h | h
  · rcases m.dom b o h with ⟨u, hu⟩ | h | h
    · exact .inl ⟨u, un_l _ _ hu⟩
    · exact .inr (.inl h)
    · exact .inr (.inr h)
  · refine .inl ?_
    unfold un
    split
    · exact ⟨_, rfl⟩
    · exact ⟨o, h⟩⟩
theorem Mu.right {N C N' C' W : Hp} (m : Mu N C N' C') (eW : Ex W C') : Mu (un W N) C (un W N') C' := ⟨un_sub eW m.sub, fun b o h1 h2 => m.frame b o (un_none h1).2 h2, m.keep, fun b o h => by
  rcases un_of h with h | h
  · exact .inl ⟨o, un_l _ _ h⟩
  · rcases m.dom b o h with ⟨u, hu⟩ | h | h
    · refine .inl ?_
      unfold un
      split
      · exact ⟨_, rfl⟩
      · exact ⟨u, hu⟩
    · exact .inr (.inl h)
    · exact .inr (.inr h)⟩
/-- N' is new in C (or tuples) -/
structure NewP (C N' C' : Hp) : Prop where
  ext : Ex C C'
  sub : Ex N' C'
  dom : ∀ b o, N' b = some o → C b = none ∨ isT o
theorem NewP.mu {C N C1 N' C' : Hp} (a : NewP C N C1) (m : Mu N C1 N' C') : NewP C N' C' := ⟨fun b o h => by
  have h1 := a.ext b o h
  cases hn : N b with
  | none => exact m.frame b o hn h1
  | some u =>
    have : u = o := by have h2 := a.sub _ _ hn; rw [h1] at h2; exact (Option.some.inj h2).symm
    subst this
    rcases a.dom b u hn with h2 | h2
    · rw [h] at h2; cases h2
    · exact m.keep b u h2 h1, m.sub, fun b o h => by
  rcases m.dom b o h with ⟨u, hu⟩ | h1 | h1
  · rcases a.dom b u hu with h2 | h2
    · exact .inl h2
    · have h3 := m.keep b u h2 (a.sub _ _ hu)
      have h4 := m.sub _ _ h
      rw [h3] at h4
      cases h4
      exact .inr h2
  · exact .inl (fresh_back a.ext h1)
  · exact .inr h1⟩
theorem NewP.apart {C N' C' F : Hp} (a : NewP C N' C') (e : Ex F C) : Apart N' F := fun b o h => by
  cases hn : N' b with
  | none => exact .inl rfl
  | some u =>
    have h1 := a.sub _ _ hn
    rw [a.ext _ _ (e _ _ h)] at h1
    cases h1
    rcases a.dom b _ hn with h2 | h2
    · rw [e _ _ h] at h2; cases h2
    · exact .inr h2
theorem NewP.pre {C C1 N' C' : Hp} (e : Ex C C1) (a : NewP C1 N' C') : NewP C N' C' := ⟨e.trans a.ext, a.sub, fun b o h => (a.dom b o h).imp (fresh_back e) id⟩
/-- what stands at these addresses, and all tuples -/
noncomputable def rst (A : Addr → Prop) (C : Hp) : Hp := fun b => open Classical in if A b ∨ ∃ o, C b = some o ∧ isT o then C b else none
theorem rst_ex {A : Addr → Prop} {C : Hp} : Ex (rst A C) C := fun b o h => by
  unfold rst at h
  split at h
  · exact h
  · cases h
theorem rst_at {A : Addr → Prop} {C : Hp} {b : Addr} {o : HO} (h : A b) (e : C b = some o) : rst A C b = some o := (if_pos (.inl h)).trans e
theorem rst_tup {A : Addr → Prop} {C : Hp} (b : Addr) (o : HO) (t : isT o) (h : C b = some o) : rst A C b = some o := (if_pos (.inr ⟨o, h, t⟩)).trans h
theorem rst_of {A : Addr → Prop} {C : Hp} {b : Addr} {o : HO} (h : rst A C b = some o) : A b ∨ isT o := by
  unfold rst at h
  split at h
  · rename_i hb
    rcases hb with hb | ⟨u, h1, h2⟩
    · exact .inl hb
    · rw [h1] at h; cases h; exact .inr h2
  · cases h
inductive CatDom (a : CatA) (W : Wr) : Addr → Prop
  | c : CatDom a W a.c
  | ut : CatDom a W a.ut
  | wt : CatDom a W a.wt
  | ct : CatDom a W a.ct
  | wd : CatDom a W a.wd
  | rc : CatDom a W a.rc
  | l {m n : PySem.Str} {ns : List PySem.Str} : (m, ns) ∈ W.us → n ∈ ns → CatDom a W (a.l m n)
  | d {m : PySem.Str} : m ∈ W.mods → CatDom a W (a.d m)
theorem CatAt.rst {K : PySem.W.Frag} {Cc : Addr} {C : Hp} {a : CatA} {W : Wr} (h : CatAt K Cc C a W) : CatAt K Cc (rst (CatDom a W) C) a W := by
  refine ⟨rst_at .c h.obj, ?_, ?_, ?_, ?_, ?_, ?_, ?_⟩
  · obtain ⟨o, kvs, h1, h2⟩ := h.ut
    exact ⟨o, kvs, rst_at .ut h1, h2.mono2 fun u kv ⟨e1, e2⟩ => ⟨e1, dp_tups rst_tup (noL_strs _) e2⟩⟩
  · obtain ⟨kvs, h1, h2⟩ := h.wt
    exact ⟨kvs, rst_at .wt h1, h2⟩
  · intro m ns n h1 h2
    obtain ⟨ws, h3, h4⟩ := h.ls m ns n h1 h2
    refine ⟨ws, rst_at (.l h1 h2) h3, dps_tups rst_tup (noLs_all fun d hd => ?_) h4⟩
    obtain ⟨q, _, rfl⟩ := List.mem_map.mp hd
    exact noL_wD q
  · obtain ⟨kvs, h1, h2⟩ := h.ct
    exact ⟨kvs, rst_at .ct h1, h2⟩
  · obtain ⟨kvs, h1, h2⟩ := h.wd
    exact ⟨kvs, rst_at .wd h1, h2⟩
  · intro m hm
    obtain ⟨kvs, h1, h2⟩ := h.ds m hm
    exact ⟨kvs, rst_at (.d hm) h1, h2⟩
  · obtain ⟨rs, h1, h2⟩ := h.rc
    exact ⟨rs, rst_at .rc h1, h2⟩
section
variable {X : Cx} {e o : Expr} {es : List Expr} {rest : List Stmt} {σ : L2.St} {N C G : Hp} {P : MP} {L : ML} {D : Ends} {x m : PySem.Str} {k j : Nat} {pre : List V → Hp → Hp → (V → Hp → Prop) → Prop} {Pm : V → Hp → Prop} {pos pos' p apos : Pos} {Q : VK}
theorem r_exprE (h : tE X e σ C fun _ C' => tR X rest D σ C') (hs : swapsWith e none pos.line X.env = pure false := by rfl) : tR X (.Expr e pos :: rest) D σ C := r_of (ps_expr pE hs) h
theorem r_setE (i : Nat) (h : tE X e σ C fun v C' => tR X rest D (σ.set i (some v)) C') (hN : X.N.Nodup) (hi : X.N[i]? = some x := by rfl) (hx : Loc X.env.scope x := by first | exact Or.inl rfl | exact Or.inr rfl)
    (hs : swapsWith e (some (.Name x pos')) pos.line X.env = pure false := by rfl) (hf : X.fn x = true ∨ X.env.scope.names.lookup x = some .local := by first | exact .inl rfl | exact .inr rfl) : tR X (.Assign [.Name x pos'] e pos :: rest) D σ C :=
  r_of (ps_set hN hi hx pE hs hf) h
/-- o.m(e, ..), the method changes its part -/
theorem te_meth {C0 c dx : Addr} {fs : List (PySem.Str × V)} {pl : Sem Bool} (hM : MtU X.prog X.w X.K X.mg X.base k C0 m pre) (cl : Cls X.K C0) (hr : Room j X.A) (ho : J X o σ G (mIs (.ref c))) (hc : N c = some (.ins C0 dx fs)) (hf : fs.lookup m = none)
    (ha : JA X (e :: es) σ G L) (eN : Ex N C) (eG : Ex G C) (ap : Apart N G) (hs : ∀ vs G', Ex G G' → Apart N G' → L.p vs G' → pre (.ref c :: vs) N G' Pm) (q : ∀ v N' C', Mu N C N' C' → Pm v N' → Q v C') (hk : k ≤ j := by decide)
    (hst : starEach (e :: es) X.env = (false, eval e X.env) :: starEach es X.env := by rfl) (hpl : (backTo pos (starEach es X.env)).any (·.1) = false := by rfl)
    (ht : eval (.Call (.Attribute o m apos) (e :: es) [] pos) X.env = (do
      let ov ← eval o X.env
      standAt apos.atName
      let (f, first) ← holding [ov] (getMethod ov m pl)
      callWith pos f first (backTo pos (starEach (e :: es) X.env)) (backToKw pos (keywordEach [] X.env))) := by rfl) : tE X (.Call (.Attribute o m apos) (e :: es) [] pos) σ C Q := by
  obtain ⟨f, fd, ps, F, hm, hb⟩ := hM.ex
  refine le_E (pe_meth (E := E0) pE cl hm F (hr.mono hk) hb .nil pass0 pA hst hpl ht) ?_
  refine ho.ev C eG _ fun C1 e1 => ⟨c, dx, fs, rfl, e1 _ _ (eN _ _ hc), hf, ?_⟩
  refine ha C1 (eG.trans e1) _ fun vs G' C2 g p => ?_
  have g' : Gr G C G' C2 := (Gr.of_ex eG e1).trans g
  show spMu pre (.ref c :: (vs ++ [])) C2 Q E0
  rw [List.append_nil]
  exact ⟨N, G', Pm, eN.trans g'.ext, g'.sub, ap.grow eN g', hs vs G' g'.up (ap.grow eN g') p, fun v N' C' mu pm => q v N' C' (mu.pre g'.ext) pm⟩
/-- f(e, ..), the def changes its part -/
theorem te_call (c : ClU X.prog X.w X.K X.mg X.base k x pre) (hr : Room j X.A) (ha : JA X (e :: es) σ G L) (eN : Ex N C) (eG : Ex G C) (ap : Apart N G) (hs : ∀ vs G', Ex G G' → Apart N G' → L.p vs G' → pre vs N G' Pm) (q : ∀ v N' C', Mu N C N' C' → Pm v N' → Q v C') (hk : k ≤ j := by decide)
    (hg : Gl X x := by rfl) (hdb : (x == ("__debug__" : PySem.Str)) = false := by decide) (he : starEach (e :: es) X.env = (false, eval e X.env) :: starEach es X.env := by rfl) (hpl : (backTo pos (starEach es X.env)).any (·.1) = false := by rfl) : tE X (.Call (.Name x p) (e :: es) [] pos) σ C Q := by
  obtain ⟨f, fd, ps, F, hm, kp, hb⟩ := c.ex
  refine le_E (pe_call (E := E0) F (hr.mono hk) hg hm kp hb .nil pass0 pA hdb he hpl) ?_
  refine ha C eG _ fun vs G' C2 g p => ?_
  show spMu pre (vs ++ []) C2 Q E0
  rw [List.append_nil]
  exact ⟨N, G', Pm, eN.trans g.ext, g.sub, ap.grow eN g, hs vs G' g.up (ap.grow eN g) p, fun v N' C' mu pm => q v N' C' (mu.pre g.ext) pm⟩
/-- a catalog is made -/
theorem te_mkCat {Cc fI : Addr} {fd : FuncData} {us : List (PySem.Str × List PySem.Str)} (hM : Mk X.K Cc fI) (F : FnOk X.prog X.w X.K X.mg X.base L2.CX0 4 fI fd ["self", "uses"] (spInit X.K Cc)) (hr : Room (j + 1) X.A) (hm : X.mg "Catalog" = some (.ref Cc)) (hb : Binds X.K fd ["self", "uses"] [])
    (he : J X e σ N P) (eN : Ex N C) (hd : ∀ v M, Ex N M → P.p v M → ∃ d kvs, v = .ref d ∧ N d = none ∧ M d = some (.dK kvs) ∧ UsAt X.K (L2.del M d) us kvs) (uo : UsOk us)
    (q : ∀ a Nc C', NewP C Nc C' → CatAt X.K Cc Nc a (w0 us) → CatDs a (w0 us) → RecLe Nc a 0 → Q (.ref a.c) C') (hk : 4 ≤ j := by decide)
    (hg : Gl X "Catalog" := by rfl) (hst : starEach [e] X.env = (false, eval e X.env) :: starEach [] X.env := by rfl) (hpl : (backTo pos (starEach [] X.env)).any (·.1) = false := by rfl) : tE X (.Call (.Name "Catalog" p) [e] [] pos) σ C Q := by
  refine le_E (pe_make (E := E0) hM F (hr.mono (by omega)) hg hm hb .nil pass0 pA (by decide) hst hpl) ?_
  refine (ja_cons he ja_nil hst) C eN _ fun vs N1 C1 g p => fun x dx hx hdx hne => ?_
  obtain ⟨y, rfl, hy⟩ := la1 p
  obtain ⟨d, kvs, rfl, hd0, hd1, hus⟩ := hd _ _ g.up hy
  have hdC : C1 d = some (.dK kvs) := g.sub _ _ hd1
  have hdx' : d ≠ x := fun z => by rw [z, hx] at hdC; cases hdC
  have hddx : d ≠ dx := fun z => by rw [z, hdx] at hdC; cases hdC
  have e12 : Ex C1 (upd (upd C1 dx (.own x)) x (.ins Cc dx [])) := fun b o h => by
    rw [upd_ne (ne_of_none h hx), upd_ne (ne_of_none h hdx)]; exact h
  have hx2 : (upd (upd C1 dx (.own x)) x (.ins Cc dx [])) x = some (.ins Cc dx []) := upd_same
  have hCd : C d = none := dom_new g hd1 hd0 fun _ z => by cases z
  have hCx : C x = none := fresh_back g.ext hx
  show spInit X.K Cc [.ref x, .ref d] (upd (upd C1 dx (.own x)) x (.ins Cc dx [])) _ E0
  generalize upd (upd C1 dx (.own x)) x (.ins Cc dx []) = C2 at e12 hx2
  refine ⟨x, dx, d, us, kvs, rfl, hx2, e12 _ _ hdC, hus.mono2 fun u kv ⟨e1, e2⟩ => ⟨e1, dp_mono (del_le.trans (g.sub.trans e12)) e2⟩, uo, fun a C' hac ca ds rl na fr => ⟨rfl, ?_⟩⟩
  subst hac
  have ext : Ex C C' := fun b o h => fr b o (ne_of_none h hCx) (ne_of_none h hCd) (e12 _ _ (g.ext _ _ h))
  have e02 : Ex C C2 := g.ext.trans e12
  refine q a (Gs.rst (CatDom a (w0 us)) C') C' ⟨ext, rst_ex, fun b o h => ?_⟩ ca.rst ds ?_
  · rcases rst_of h with h | h
    · refine .inl ?_
      cases h with
      | c => exact hCx
      | ut => exact fresh_back e02 na.ut
      | wt => exact fresh_back e02 na.wt
      | ct => exact fresh_back e02 na.ct
      | wd => exact fresh_back e02 na.wd
      | rc => exact fresh_back e02 na.rc
      | l h1 h2 => exact fresh_back e02 (na.l _ _ _ h1 h2)
      | d h1 => exact fresh_back e02 (na.d _ h1)
    · exact .inr h
  · obtain ⟨rs, h1, h2⟩ := rl
    exact ⟨rs, rst_at .rc h1, h2⟩
end
end Gs

set_option Elab.async false
set_option linter.all false
set_option maxRecDepth 100000
set_option maxHeartbeats 4000000
/-! GsPl: the state of a catalog, version by version (plain). -/
namespace Gs
open PySem PySem.Spec PyProof.Rows L2 Evl
theorem addQ_sub {ns : List PySem.Str} {qs : List Wn} {n : PySem.Str} {q : Wn} (h : q ∈ addQ ns qs n) : q ∈ qs := by
  unfold addQ at h
  obtain ⟨p, h1, h2⟩ := List.mem_filterMap.mp h
  split at h2
  · cases h2; exact (List.of_mem_zip h1).2
  · cases h2
theorem addQ_not {ns : List PySem.Str} {qs : List Wn} {n : PySem.Str} (h : n ∉ ns) : addQ ns qs n = [] := by
  unfold addQ
  refine List.filterMap_eq_nil_iff.mpr fun p hp => ?_
  have hm := (List.of_mem_zip hp).1
  have hz : ¬ p.1 = n := fun z => h (z ▸ hm)
  exact if_neg hz
theorem low_last {l : List Wn} (h : (l.map (·.1)).Pairwise (· ≤ ·)) {q : Wn} (hr : ∀ p, l.getLast? = some p → p.1 ≤ q.1) : ∀ p ∈ l, p.1 ≤ q.1 := fun p hp => by
  obtain ⟨i, hi⟩ := List.getElem?_of_mem hp
  obtain ⟨hi1, hi2⟩ := List.getElem?_eq_some_iff.mp hi
  have hl : l.getLast? = some (l[l.length - 1]'(by omega)) := by rw [List.getLast?_eq_getElem?, List.getElem?_eq_getElem (by omega)]
  have h1 := hr _ hl
  rcases Nat.lt_or_ge i (l.length - 1) with hlt | hge
  · have := (List.pairwise_iff_getElem.mp h) i (l.length - 1) (by rw [List.length_map]; exact hi1) (by rw [List.length_map]; omega) hlt
    rw [List.getElem_map, List.getElem_map, hi2] at this
    exact Int.le_trans this h1
  · have : i = l.length - 1 := by omega
    subst this
    rw [hi2] at h1
    exact h1
/-- all windows are not above z -/
def Sm (W : Wr) (z : Int) : Prop := ∀ m n, ∀ q ∈ W.win m n, q.1 ≤ z ∧ ∀ h, q.2 = some h → h ≤ z
structure PubOk (W : Wr) (m : PySem.Str) (ns : List PySem.Str) (qs : List Wn) : Prop where
  us : (m, ns) ∈ W.us
  len : qs.length = ns.length
  ok : ∀ q ∈ qs, WinOk q
  rise : ∀ (i : Nat) n q p, ns[i]? = some n → qs[i]? = some q → (W.win m n).getLast? = some p → RiseOk p q
  cnt : W.cnt m < 10
theorem WOk.pub {W : Wr} (o : WOk W) {m : PySem.Str} {ns : List PySem.Str} {qs : List Wn} (h : PubOk W m ns qs) {z : Int} (sm : Sm W z) (hz : z ≤ 100) (hq : ∀ q ∈ qs, q.1 ≤ z ∧ ∀ h, q.2 = some h → h ≤ z) : WOk (pubW W m ns qs) ∧ Sm (pubW W m ns qs) z := by
  have nd := (o.ns m ns h.us).1
  have key : Sm (pubW W m ns qs) z := fun u n q hq2 => by
    have hq3 : q ∈ (if u = m then W.win u n ++ addQ ns qs n else W.win u n) := hq2
    by_cases e : u = m
    · rw [if_pos e] at hq3
      rcases List.mem_append.mp hq3 with h3 | h3
      · exact sm u n q h3
      · exact hq q (addQ_sub h3)
    · rw [if_neg e] at hq3
      exact sm u n q hq3
  refine ⟨⟨o.nd, o.few, o.ns, fun u us n hu hn => ?_, fun u n q hq2 => ?_, fun u n => ?_, fun u n q hq2 => ?_, fun u => ?_, o.nm⟩, key⟩
  · show (if u = m then W.win u n ++ addQ ns qs n else W.win u n).length = if u = m then W.cnt u + 1 else W.cnt u
    by_cases e : u = m
    · subst e
      have e2 : us = ns := by rw [← o.usesOf hu, ← o.usesOf h.us]
      subst e2
      obtain ⟨i, hi⟩ := List.getElem?_of_mem hn
      obtain ⟨hi1, hi2⟩ := List.getElem?_eq_some_iff.mp hi
      have hi3 : i < qs.length := by rw [h.len]; exact hi1
      rw [if_pos rfl, if_pos rfl, List.length_append, o.len u us n hu hn, addQ_one nd hi (List.getElem?_eq_getElem hi3)]
      rfl
    · rw [if_neg e, if_neg e]; exact o.len u us n hu hn
  · have hq3 : q ∈ (if u = m then W.win u n ++ addQ ns qs n else W.win u n) := hq2
    by_cases e : u = m
    · rw [if_pos e] at hq3
      rcases List.mem_append.mp hq3 with h3 | h3
      · exact o.ok u n q h3
      · exact h.ok q (addQ_sub h3)
    · rw [if_neg e] at hq3
      exact o.ok u n q hq3
  · show ((if u = m then W.win u n ++ addQ ns qs n else W.win u n).map (·.1)).Pairwise (· ≤ ·)
    by_cases e : u = m
    · subst e
      rw [if_pos rfl]
      by_cases hn : n ∈ ns
      · obtain ⟨i, hi⟩ := List.getElem?_of_mem hn
        obtain ⟨hi1, hi2⟩ := List.getElem?_eq_some_iff.mp hi
        have hi3 : i < qs.length := by rw [h.len]; exact hi1
        rw [addQ_one nd hi (List.getElem?_eq_getElem hi3), List.map_append]
        refine List.pairwise_append.mpr ⟨o.low u n, List.pairwise_singleton _ _, fun a ha b hb => ?_⟩
        obtain ⟨p, hp, rfl⟩ := List.mem_map.mp ha
        have hb' : b = (qs[i]).1 := by simpa using hb
        rw [hb']
        exact low_last (o.low u n) (fun p hp => (h.rise i n _ p hi (List.getElem?_eq_getElem hi3) hp).1) p hp
      · rw [addQ_not hn, List.append_nil]; exact o.low u n
    · rw [if_neg e]; exact o.low u n
  · obtain ⟨h1, h2⟩ := key u n q hq2
    exact ⟨Int.le_trans h1 hz, fun x hx => Int.le_trans (h2 x hx) hz⟩
  · show (if u = m then W.cnt u + 1 else W.cnt u) ≤ 10
    by_cases e : u = m
    · rw [if_pos e, e]; exact h.cnt
    · rw [if_neg e]; exact o.cs u
/-! ### from rows -/
def usOf (rs : List Rw) : List (PySem.Str × List PySem.Str) := rs.map fun r => (r.nm, r.us)
theorem usOf_nm (rs : List Rw) : (usOf rs).map (·.1) = rs.map (·.nm) := by
  unfold usOf
  rw [List.map_map]; rfl
theorem usOf_at {rs : List Rw} {p : Nat} {r : Rw} (h : rs[p]? = some r) : (usOf rs)[p]? = some (r.nm, r.us) := by
  unfold usOf
  rw [List.getElem?_map, h]; rfl
/-- so many versions of each row are published -/
structure Shown (rs : List Rw) (sh : Nat → Nat) (W : Wr) : Prop where
  us : W.us = usOf rs
  wd : ∀ m, W.wd m = []
  ok : WOk W
  sm : Sm W 22
  at_ : ∀ p r, rs[p]? = some r → W.cnt r.nm = sh p ∧ ∀ (j : Nat) n, r.us[j]? = some n → W.win r.nm n = (r.vs.take (sh p)).map (·.getD j (0, none))
structure RwsIs (rs : List Rw) : Prop where
  nd : (rs.map (·.nm)).Nodup
  nm : ∀ r ∈ rs, NameOk r.nm
  few : rs.length ≤ 3
  some : rs ≠ []
  ok : ∀ r ∈ rs, RwOk (rs.map (·.nm)) r
theorem RwsIs.usOk {rs : List Rw} (h : RwsIs rs) : UsOk (usOf rs) := by
  refine ⟨by rw [usOf_nm]; exact h.nd, by unfold usOf; rw [List.length_map]; exact h.few, fun z => h.some (List.map_eq_nil_iff.mp z), fun u hu => ?_, fun u hu => ?_⟩
  · obtain ⟨r, hr, rfl⟩ := List.mem_map.mp hu
    exact h.nm r hr
  · obtain ⟨r, hr, rfl⟩ := List.mem_map.mp hu
    refine ⟨(h.ok r hr).nd, fun n hn => ?_⟩
    rw [usOf_nm]
    exact (h.ok r hr).isin n hn
theorem RwsIs.shown0 {rs : List Rw} (h : RwsIs rs) : Shown rs (fun _ => 0) (w0 (usOf rs)) := by
  have u := h.usOk
  refine ⟨rfl, fun _ => rfl, ⟨u.nd, u.few, fun m ns hm => u.ns _ hm, fun _ _ _ _ _ => rfl, fun _ _ _ h => (nomatch h), fun _ _ => List.Pairwise.nil, fun _ _ _ h => (nomatch h), fun _ => Nat.zero_le _, fun m hm => ?_⟩, fun _ _ _ h => (nomatch h), fun p r hr => ⟨rfl, fun j n hn => rfl⟩⟩
  obtain ⟨v, hv, rfl⟩ := List.mem_map.mp hm
  exact u.ok v hv
theorem nodup_at {rs : List Rw} (nd : (rs.map (·.nm)).Nodup) {p p' : Nat} {r r' : Rw} (h : rs[p]? = some r) (h' : rs[p']? = some r') (hne : p' ≠ p) : r'.nm ≠ r.nm := fun e => by
  have h1 : (rs.map (·.nm))[p]? = some r.nm := by rw [List.getElem?_map, h]; rfl
  have h2 : (rs.map (·.nm))[p']? = some r'.nm := by rw [List.getElem?_map, h']; rfl
  rw [e] at h2
  exact hne ((List.getElem?_inj (List.getElem?_eq_some_iff.mp h2).1 nd).mp (h2.trans h1.symm))
theorem Shown.pub {rs : List Rw} {sh : Nat → Nat} {W : Wr} (S : Shown rs sh W) (R : RwsIs rs) {p : Nat} {r : Rw} {q : List Wn} (hr : rs[p]? = some r) (hq : r.vs[sh p]? = some q) : PubOk W r.nm r.us q ∧ Shown rs (fun x => if x = p then sh p + 1 else sh x) (pubW W r.nm r.us q) := by
  have hrm : r ∈ rs := List.mem_of_getElem? hr
  have O := R.ok r hrm
  have hqm : q ∈ r.vs := List.mem_of_getElem? hq
  have hql : q.length = r.us.length := O.wide q hqm
  obtain ⟨hk, hqe⟩ := List.getElem?_eq_some_iff.mp hq
  have hfew := O.few
  have hus : (r.nm, r.us) ∈ W.us := by rw [S.us]; exact List.mem_map.mpr ⟨r, hrm, rfl⟩
  have col : ∀ (j : Nat) (x : Wn), q[j]? = some x → (r.vs.map (·.getD j (0, none)))[sh p]? = some x ∧ j < r.us.length := fun j x hx => by
    refine ⟨?_, by rw [← hql]; exact (List.getElem?_eq_some_iff.mp hx).1⟩
    rw [List.getElem?_map, hq]
    show some (q.getD j (0, none)) = some x
    rw [List.getD_eq_getElem?_getD, hx]; rfl
  have P : PubOk W r.nm r.us q := by
    refine ⟨hus, hql, fun x hx => ?_, fun i n x y hn hx hy => ?_, by rw [(S.at_ p r hr).1]; omega⟩
    · obtain ⟨j, hj⟩ := List.getElem?_of_mem hx
      obtain ⟨h1, h2⟩ := col j x hj
      exact (O.col j h2).ok x (List.mem_of_getElem? h1)
    · obtain ⟨h1, h2⟩ := col i x hx
      rw [(S.at_ p r hr).2 i n hn, List.getLast?_eq_getElem?, List.length_map, List.length_take, Nat.min_eq_left (Nat.le_of_lt hk)] at hy
      cases hs : sh p with
      | zero => rw [hs] at hy; simp at hy
      | succ k =>
        rw [hs] at hy h1
        rw [show k + 1 - 1 = k by omega, List.getElem?_map, List.getElem?_take_of_lt (by omega), ← List.getElem?_map] at hy
        exact (O.col i h2).rise k y x hy h1
  obtain ⟨W1, W2⟩ := S.ok.pub P S.sm (by decide) fun x hx => by
    obtain ⟨j, hj⟩ := List.getElem?_of_mem hx
    obtain ⟨h1, h2⟩ := col j x hj
    have := (O.col j h2).small x (List.mem_of_getElem? h1)
    exact ⟨by have := this.1; omega, fun h hh => by have := this.2 h hh; omega⟩
  refine ⟨P, S.us, S.wd, W1, W2, fun p' r' hr' => ?_⟩
  by_cases e : p' = p
  · subst e
    rw [hr] at hr'
    cases hr'
    have A := S.at_ p' r hr
    refine ⟨?_, fun j n hn => ?_⟩
    · show (if r.nm = r.nm then W.cnt r.nm + 1 else W.cnt r.nm) = if p' = p' then sh p' + 1 else sh p'
      rw [if_pos rfl, if_pos rfl, A.1]
    · show (if r.nm = r.nm then W.win r.nm n ++ addQ r.us q n else W.win r.nm n) = (r.vs.take (if p' = p' then sh p' + 1 else sh p')).map _
      have hj : j < q.length := by rw [hql]; exact (List.getElem?_eq_some_iff.mp hn).1
      rw [if_pos rfl, if_pos rfl, A.2 j n hn, addQ_one O.nd hn (List.getElem?_eq_getElem hj), List.take_succ, hq, List.map_append]
      refine congrArg _ ?_
      show [q[j]] = [q.getD j (0, none)]
      rw [List.getD_eq_getElem?_getD, List.getElem?_eq_getElem hj] <;> rfl
  · have hne := nodup_at R.nd hr hr' e
    have A := S.at_ p' r' hr'
    refine ⟨?_, fun j n hn => ?_⟩
    · show (if r'.nm = r.nm then W.cnt r'.nm + 1 else W.cnt r'.nm) = if p' = p then sh p + 1 else sh p'
      rw [if_neg hne, if_neg e, A.1]
    · show (if r'.nm = r.nm then W.win r'.nm n ++ addQ r.us q n else W.win r'.nm n) = (r'.vs.take (if p' = p then sh p + 1 else sh p')).map _
      rw [if_neg hne, if_neg e, A.2 j n hn]
/-- all versions are published -/
structure Full (rs : List Rw) (W : Wr) : Prop where
  us : W.us = usOf rs
  wd : ∀ m, W.wd m = []
  ok : WOk W
  sm : Sm W 22
  at_ : ∀ r ∈ rs, W.cnt r.nm = r.vs.length ∧ ∀ (j : Nat) n, r.us[j]? = some n → W.win r.nm n = r.vs.map (·.getD j (0, none))
theorem Shown.full {rs : List Rw} {sh : Nat → Nat} {W : Wr} (S : Shown rs sh W) (h : ∀ p r, rs[p]? = some r → sh p = r.vs.length) : Full rs W := ⟨S.us, S.wd, S.ok, S.sm, fun r hr => by
  obtain ⟨p, hp⟩ := List.getElem?_of_mem hr
  have A := S.at_ p r hp
  rw [h p r hp] at A
  refine ⟨A.1, fun j n hn => ?_⟩
  rw [A.2 j n hn, List.take_length]⟩
end Gs

set_option Elab.async false
set_option linter.all false
set_option maxRecDepth 100000
set_option maxHeartbeats 4000000
/-! GsRow2: check_rows, catalog_of. -/
namespace Gs
open PySem PySem.Spec PyProof.Rows L2 Evl
theorem NewP.grow {C N' C' C2 : Hp} (a : NewP C N' C') (e : Ex C' C2) : NewP C N' C2 := ⟨a.ext.trans e, a.sub.trans e, a.dom⟩
theorem RecLe.mono {N : Hp} {a : CatA} {k k' : Nat} (h : RecLe N a k) (e : k ≤ k') : RecLe N a k' := by
  obtain ⟨rs, h1, h2⟩ := h
  exact ⟨rs, h1, Nat.le_trans h2 e⟩
/-! ### functions with a new part -/
def spNw (pre : List V → Hp → (V → Hp → Prop) → Prop) : Sp := fun vs C Q _ => ∃ (N : Hp) (Pm : V → Hp → Prop), Ex N C ∧ pre vs N Pm ∧ ∀ v N' C', NewP C N' C' → Pm v N' → Q v C'
structure ClN (P : Program) (w : World) (K : PySem.W.Frag) (mg : PySem.Str → Option Value) (base : Heap) (k : Nat) (x : PySem.Str) (pre : List V → Hp → (V → Hp → Prop) → Prop) : Prop where
  ex : ∃ (f : Addr) (fd : FuncData) (ps : List PySem.Str), FnOk P w K mg base L2.CX0 k f fd ps (spNw pre) ∧ mg x = some (.ref f) ∧ PySem.W.keepIn K (.ref f) = true ∧ Binds K fd ps []
section
variable {P : Program} {w : World} {K : PySem.W.Frag} {mg : PySem.Str → Option Value} {base : Heap} {x : PySem.Str} {st : Stmt} {N ps : List PySem.Str} {k : Nat} {pre : List V → Hp → (V → Hp → Prop) → Prop}
theorem cln_of (F : DF K mg x st) (S : C8.scC N ps (defScope st) = true) (len : ∀ vs M Pm, pre vs M Pm → vs.length = ps.length)
    (hb : ∀ (kV doc pm : Value) (an : Option Addr) (cdv ct : Value) (us : List Value), us.length = ps.length → bindArgs (PySem.W.fnOf x x (defArgs st) (defBody st) (defScope st) .none kV doc pm an cdv ct) ⟨us, []⟩ = pure (ps.zip us))
    (body : ∀ (f : Addr) (cdv : Value) (A : Around) (outer : List Env) (s : Shared) (C : Hp) (E : XK) (vs : List V) (M : Hp) (Pm : V → Hp → Prop) (D : Ends), Room k (cxN P w K mg base N x st f cdv A outer s C E).A → Ex M C → pre vs M Pm → (∀ v N' C', NewP C N' C' → Pm v N' → D.rt v C') →
      tR (cxN P w K mg base N x st f cdv A outer s C E) (defBody st) D (start N vs) C) : ClN P w K mg base (k + 1) x pre := by
  obtain ⟨f, fd, F1, hm⟩ := F
  refine ⟨f, fd, ps, fnok_of F1 S (fun vs C Q E h => ?_) (fun cdv A outer s C E vs Q hr hsp => ?_), hm, F1.kp, F1.binds hb⟩
  · obtain ⟨M, Pm, _, hp, _⟩ := h
    exact len vs M Pm hp
  · obtain ⟨M, Pm, eM, hp, q⟩ := hsp
    exact body f cdv A outer s C E vs M Pm _ hr eM hp q
end
section
variable {X : Cx} {e : Expr} {es : List Expr} {σ : L2.St} {C G : Hp} {L : ML} {x : PySem.Str} {k j : Nat} {pre : List V → Hp → (V → Hp → Prop) → Prop} {Pm : V → Hp → Prop} {pos p : Pos} {Q : VK}
theorem te_callN (c : ClN X.prog X.w X.K X.mg X.base k x pre) (hr : Room j X.A) (ha : JA X (e :: es) σ G L) (eG : Ex G C) (hs : ∀ vs G', Ex G G' → L.p vs G' → pre vs G' Pm) (q : ∀ v N' C', NewP C N' C' → Pm v N' → Q v C') (hk : k ≤ j := by decide)
    (hg : Gl X x := by rfl) (hdb : (x == ("__debug__" : PySem.Str)) = false := by decide) (he : starEach (e :: es) X.env = (false, eval e X.env) :: starEach es X.env := by rfl) (hpl : (backTo pos (starEach es X.env)).any (·.1) = false := by rfl) : tE X (.Call (.Name x p) (e :: es) [] pos) σ C Q := by
  obtain ⟨f, fd, ps, F, hm, kp, hb⟩ := c.ex
  refine le_E (pe_call (E := E0) F (hr.mono hk) hg hm kp hb .nil pass0 pA hdb he hpl) ?_
  refine ha C eG _ fun vs G' C2 g p => ?_
  show spNw pre (vs ++ []) C2 Q E0
  rw [List.append_nil]
  exact ⟨G', Pm, g.sub, hs vs G' g.up p, fun v N' C' a pm => q v N' C' (a.pre g.ext) pm⟩
end
/-! ### targets of three -/
theorem gp3 {K : PySem.W.Frag} {i j k : Nat} {a : Addr} {v1 v2 v3 : V} {σ : L2.St} {C : Hp} {Q : L2.St → Hp → Prop} (h : SqT K C a [v1, v2, v3]) (q : Q (((σ.set i (some v1)).set j (some v2)).set k (some v3)) C) : gTup K 3 (gCons (gName i) (gCons (gName j) (gCons (gName k) gNil))) (.ref a) σ C Q :=
  ⟨a, [v1, v2, v3], rfl, h, rfl, v1, [v2, v3], rfl, v2, [v3], rfl, v3, [], rfl, rfl, q⟩
theorem gm_tup3 {K : PySem.W.Frag} {i j k : Nat} : ∀ x s C (Q Q' : L2.St → Hp → Prop), (∀ a b, Q a b → Q' a b) → gTup K 3 (gCons (gName i) (gCons (gName j) (gCons (gName k) gNil))) x s C Q → gTup K 3 (gCons (gName i) (gCons (gName j) (gCons (gName k) gNil))) x s C Q' := fun _ _ _ _ _ kk ⟨a, xs, h1, h2, h3, v, r, h4, v2, r2, h5, v3, r3, h6, h7, q⟩ => ⟨a, xs, h1, h2, h3, v, r, h4, v2, r2, h5, v3, r3, h6, h7, kk _ _ q⟩
theorem dp_row {K : PySem.W.Frag} {H : Hp} {v : V} {r : Rw} (h : Dp K H v (rwD r)) : ∃ T u l, v = .ref T ∧ SqT K H T [.str r.nm, u, l] ∧ Dp K H u (.tuple (strsD r.us)) ∧ Dp K H l (.list (r.vs.map winsD)) := by
  obtain ⟨T, xs, rfl, s, al⟩ := dp_tup h
  obtain ⟨a, xs, rfl, ha, al⟩ := dps_cons_inv al
  obtain ⟨b, xs, rfl, hb, al⟩ := dps_cons_inv al
  obtain ⟨c, xs, rfl, hc, al⟩ := dps_cons_inv al
  obtain rfl := dps_nil_inv al
  obtain rfl := dp_str ha
  exact ⟨T, b, c, rfl, s, hb, hc⟩
/-! ### the dict of uses -/
def obU (K : PySem.W.Frag) (us : List (PySem.Str × List PySem.Str)) : OB := ⟨fun _ M i o => ∃ kvs, o = .dK kvs ∧ UsAt K M (us.take i) kvs, fun e ⟨kvs, h1, h2⟩ => ⟨kvs, h1, h2.mono2 fun u kv ⟨e1, e2⟩ => ⟨e1, dp_mono e e2⟩⟩, fun h xs z => by
  obtain ⟨_, rfl, _⟩ := h; cases z⟩
theorem tbU_ok {K : PySem.W.Frag} {tk tv : TE} {σ : L2.St} {M : Hp} {i : Nat} {us : List (PySem.Str × List PySem.Str)} {u : PySem.Str × List PySem.Str} (hk : us[i]? = some u) (nd : (us.map (·.1)).Nodup) (hi : i < 1000) (h : Ev tk σ M (.str u.1)) (hv : EvP tv σ M (mD K (.tuple (strsD u.2)))) : TbOk (obU K us) (tbD tk tv) σ M i := fun D o C eC hM hC hB Nx q => by
  obtain ⟨kvs, rfl, hB⟩ := hB
  have hl : kvs.length ≤ i := by rw [hB.len, List.length_take]; omega
  refine h C eC _ fun C1 e1 => hv C1 (eC.trans e1) _ fun v M2 C2 g2 hp => ?_
  have g12 : Gr M C M2 C2 := (Gr.of_ex eC e1).trans g2
  have hnot : u.1 ∉ (us.take i).map (·.1) := fun hm => by
    rw [List.map_take] at hm
    obtain ⟨j, hj⟩ := List.getElem?_of_mem hm
    have hj2 : j < i := by
      have := (List.getElem?_eq_some_iff.mp hj).1
      rw [List.length_take] at this
      omega
    rw [List.getElem?_take_of_lt hj2] at hj
    have hi2 : (us.map (·.1))[i]? = some u.1 := by rw [List.getElem?_map, hk]; rfl
    have := (List.getElem?_inj (List.getElem?_eq_some_iff.mp hi2).1 nd).mp (hi2.trans hj.symm)
    omega
  refine ⟨_, .k (k := .inr u.1) (g12.ext _ _ hC) (sz_lt (by omega)), q M2 _ C2 g12 ⟨_, rfl, ?_⟩⟩
  rw [putK_new v (hB.none hnot), List.take_succ, hk]
  exact F2.snoc ⟨rfl, hp⟩ (hB.mono2 fun u kv ⟨e1, e2⟩ => ⟨e1, dp_mono g12.up e2⟩)
section
variable {P : Program} {w : World} {K : PySem.W.Frag} {mg : PySem.Str → Option Value} {base : Heap} {Cc : Addr}
def preChkR (K : PySem.W.Frag) (vs : List V) (N : Hp) (P : MP) : Prop := ∃ (v : V) (rs : List Rw), vs = [v] ∧ Dp K N v (.list (rs.map rwD)) ∧ (rs.map (·.nm)).Nodup ∧ rs.length ≤ 3 ∧ P = mIs .non
theorem ok_chkR (F : DF K mg "check_rows" (top 46)) (B : Bt mg) : Cl P w K mg base 1 "check_rows" (preChkR K) := by
  refine cl_of (N := ["rows", "known", "position", "row"]) (ps := ["rows"]) F (by decide +kernel) (fun vs M Pm h => ?_) (fun _ _ _ _ _ _ us hl => match us, hl with | [_], _ => rfl) fun f cdv A outer s C E vs M Pm D hr eM h rt nx => ?_
  · obtain ⟨v, rs, rfl, _⟩ := h; rfl
  obtain ⟨v, rs, rfl, hd, hnd, hfew, rfl⟩ := h
  have hN : (["rows", "known", "position", "row"] : List PySem.Str).Nodup := by decide
  have hrl : (rs.map rwD).length = rs.length := List.length_map _
  refine r_skip (N := M) (jt_notF (jt_val (j_isi (b := true) (vt := "list") (P := mD K (.list (rs.map rwD))) (j_var 0 hd) (fun v M g p => tyx_dlst p) B.list PyProof.Rows.Boot.«list» (by decide +kernel) B.isi))) eM fun C1 e1 => ?_
  refine r_set 1 (N := M) (P := mNew M (.dK [])) j_newD (eM.trans e1) hN fun v2 N2 C2 g2 p2 => ?_
  obtain ⟨d, rfl, hMd, hd1⟩ := p2
  have hC1d : C1 d = none := dom_new g2 hd1 hMd fun _ z => by cases z
  have hCd : C d = none := fresh_back e1 hC1d
  have gl : Gr M C (L2.del N2 d) C2 := (Gr.of_ex eM e1).trans (g2.del hMd)
  have hdC : C2 d = some (.dK []) := g2.sub _ _ hd1
  refine r_for (N := L2.del N2 d) (n := (rs.map rwD).length) (pi_enum rfl B.enum pA) (ji_enumD (K := K) (ja_cons (j_var 0 (P := mD K _) (dp_mono gl.up hd)) ja_nil)) gl.sub (pg_tup rfl (pgs_cons (pg_name (i := 2) hN rfl (Or.inl rfl)) (pgs_cons (pg_name (i := 3) hN rfl (Or.inl rfl)) pgs_nil))) PassesOwn.never rfl
    (fun N3 i σ C3 => ∃ (Mi : Hp) (kvs : List (Key × V)) (o2 o3 : Option V), Gr M C Mi C3 ∧ Ex N3 Mi ∧ Mi d = none ∧ C3 d = some (.dK kvs) ∧ kvs.length ≤ i ∧ (∀ m, (valV kvs (.inr m)).isSome = true → m ∈ (rs.map (·.nm)).take i) ∧ σ = [some v, some (.ref d), o2, o3])
    (fun N3 C3 g3 => ⟨N3, [], none, none, gl.trans g3, Ex.refl _, g3.outO del_same hdC (fun _ z => by cases z), g3.ext _ _ hdC, Nat.zero_le _, fun m hm => (by cases hm), rfl⟩) (fun N3 i σ C3 ⟨Mi, _, _, _, h1, h2, _⟩ => h2.trans h1.sub) (fun N3 i x σ C3 M4 C4 e3 hi hP3 gM hx => ?_) fun N3 σ C3 e3 ⟨Mi, kvs, o2, o3, gi, _⟩ => r_nil (nx Mi C3 σ gi rfl)
  obtain ⟨Mi, kvs, o2, o3, gi, eNi, hMid, hC3d, hkl, hks, rfl⟩ := hP3
  obtain ⟨gm2, em2⟩ := gM.more eNi gi.sub
  obtain ⟨T, y, dd, rfl, hd2, hy, hT⟩ := hx
  have hi' : i < rs.length := by omega
  rw [List.getElem?_map, List.getElem?_eq_getElem hi'] at hd2
  have hd2' : rwD rs[i] = dd := Option.some.inj hd2
  subst hd2'
  have g4 := gi.trans gm2
  have hy4 := dp_mono em2 hy
  have h4d : un Mi M4 d = none := gm2.outO hMid hC3d fun _ z => by cases z
  have hC4d := gm2.ext _ _ hC3d
  have hnm : rs[i].nm ∉ (rs.map (·.nm)).take i := fun hm => by
    obtain ⟨j, hj⟩ := List.getElem?_of_mem hm
    have hj2 : j < i := by
      have := (List.getElem?_eq_some_iff.mp hj).1
      rw [List.length_take] at this
      omega
    rw [List.getElem?_take_of_lt hj2] at hj
    have hi2 : (rs.map (·.nm))[i]? = some rs[i].nm := by rw [List.getElem?_map, List.getElem?_eq_getElem hi']; rfl
    have := (List.getElem?_inj (List.getElem?_eq_some_iff.mp hi2).1 hnd).mp (hi2.trans hj.symm)
    omega
  have hval : valV kvs (.inr rs[i].nm) = none := by
    cases h : valV kvs (.inr rs[i].nm) with
    | none => rfl
    | some z => exact absurd (hks _ (by rw [h]; rfl)) hnm
  refine gp2 (SqT.of (gm2.sub _ _ (em2 _ _ hT))) ?_
  have eD : Ex (un Mi M4) (upd (un Mi M4) d (.dK kvs)) := Ex.new h4d
  have eDC : ∀ {Cx : Hp}, Ex (un Mi M4) Cx → Cx d = some (.dK kvs) → Ex (upd (un Mi M4) d (.dK kvs)) Cx := fun h1 h2 b u hb => by
    by_cases z : b = d
    · subst z; rw [upd_same] at hb; cases hb; exact h2
    · rw [upd_ne z] at hb; exact h1 _ _ hb
  refine r_skip (N := un Mi M4) (JW.t (jw_orF (jt_notF (jt_val (j_isi (b := true) (vt := "tuple") (P := mD K (rwD rs[i])) (j_var 3 hy4) (fun v M g p => tyx_dtup p) B.tuple PyProof.Rows.Boot.«tuple» (by decide +kernel) B.isi))) (jw_orF (JT.is (jt_cmp op_ne (j_lenT (j_var 3 (P := mD K (.tuple [.str rs[i].nm, .tuple (strsD rs[i].us), .list (rs[i].vs.map winsD)])) hy4) B.len) j_int rv_neI) rfl) (jw_or1 (jt_notF (jt_val (j_isi (b := true) (vt := "str") (P := mIs (.str rs[i].nm)) (J.str (j_ixT (j_var 3 (P := mD K (.tuple [.str rs[i].nm, .tuple (strsD rs[i].us), .list (rs[i].vs.map winsD)])) hy4) j_int rfl)) (fun v M g p => ?_) B.str PyProof.Rows.Boot.«str» (by decide +kernel) B.isi))))))) g4.sub fun C5 e5 => ?_
  · have p' : v = V.str rs[i].nm := p
    subst p'; exact .base (.str _)
  refine r_skip (N := upd (un Mi M4) d (.dK kvs)) (JW.t (jw_orF (jt_notF (jt_val (j_isi (b := true) (vt := "list") (P := mD K (.list (rs[i].vs.map winsD))) (j_ixT (j_var 3 (P := mD K (.tuple [.str rs[i].nm, .tuple (strsD rs[i].us), .list (rs[i].vs.map winsD)])) (dp_mono eD hy4)) j_int rfl) (fun v M g p => tyx_dlst p) B.list PyProof.Rows.Boot.«list» (by decide +kernel) B.isi))) (jw_or1 (jt_din (r := none) (hu_of hr) (J.str (j_ixT (j_var 3 (P := mD K (.tuple [.str rs[i].nm, .tuple (strsD rs[i].us), .list (rs[i].vs.map winsD)])) (dp_mono eD hy4)) j_int rfl)) (jv 1) (.inl ⟨kvs, .inr rs[i].nm, .inl upd_same, rfl, hval.symm⟩))))) (eDC (g4.sub.trans e5) (e5 _ _ hC4d)) fun C6 e6 => ?_
  refine r_dput (N := un Mi M4) (k := .inr rs[i].nm) (v := .bl true) (hu_of hr) j_bl (jv 1) (J.str (j_ixT (j_var 3 (P := mD K (.tuple [.str rs[i].nm, .tuple (strsD rs[i].us), .list (rs[i].vs.map winsD)])) hy4) j_int rfl)) (g4.sub.trans (e5.trans e6)) ((e5.trans e6) _ _ hC4d) (by omega) fun C7 e7 => ?_
  have hT1 : (rs.map (·.nm)).take (i + 1) = (rs.map (·.nm)).take i ++ [rs[i].nm] := by rw [List.take_succ, List.getElem?_map, List.getElem?_eq_getElem hi']; rfl
  refine r_nil ⟨un Mi M4, _, _, _, (g4.grow (e5.trans (e6.trans e7))).mut hCd h4d, eNi.trans gm2.up, h4d, upd_same, by have := length_putK kvs (.inr rs[i].nm) (.bl true); omega, fun m hm => ?_, rfl⟩
  rw [valV_put] at hm
  rw [hT1]
  by_cases z : (Sum.inr m : Key) = .inr rs[i].nm
  · rw [Sum.inr.inj z]; exact List.mem_append_right _ (List.mem_singleton.mpr rfl)
  · rw [if_neg z] at hm
    exact List.mem_append_left _ (hks m hm)
def preCatOf (K : PySem.W.Frag) (Cc : Addr) (vs : List V) (N : Hp) (Pm : V → Hp → Prop) : Prop := ∃ (v : V) (rs : List Rw), vs = [v] ∧ Dp K N v (.list (rs.map rwD)) ∧ RwsIs rs ∧ ∀ a W N', CatAt K Cc N' a W → CatDs a W → RecLe N' a 12 → Full rs W → Pm (.ref a.c) N'
theorem ok_catOf {fI : Addr} {fd : FuncData} (F : DF K mg "catalog_of" (top 47)) (B : Bt mg) (T : CatC K Cc) (hmC : mg "Catalog" = some (.ref Cc)) (hM : Mk K Cc fI) (FI : FnOk P w K mg base L2.CX0 4 fI fd ["self", "uses"] (spInit K Cc)) (hbI : Binds K fd ["self", "uses"] []) (c1 : Cl P w K mg base 1 "check_rows" (preChkR K)) (c2 : MtU P w K mg base 6 Cc "publish" (prePub K Cc)) : ClN P w K mg base 7 "catalog_of" (preCatOf K Cc) := by
  refine cln_of (N := ["rows", "catalog", "module", "names", "versions", "windows"]) (ps := ["rows"]) F (by decide +kernel) (fun vs M Pm h => ?_) (fun _ _ _ _ _ _ us hl => match us, hl with | [_], _ => rfl) fun f cdv A outer s C E vs M Pm D hr eM h rt => ?_
  · obtain ⟨v, rs, rfl, _⟩ := h; rfl
  obtain ⟨v, rs, rfl, hd, R, hP⟩ := h
  have hN : (["rows", "catalog", "module", "names", "versions", "windows"] : List PySem.Str).Nodup := by decide
  have hrl : (rs.map rwD).length = rs.length := List.length_map _
  have hfew := R.few
  have hul : (usOf rs).length = rs.length := List.length_map _
  have rowAt : ∀ i d, (rs.map rwD)[i]? = some d → ∃ r, rs[i]? = some r ∧ d = rwD r := fun i d h => by
    rw [List.getElem?_map] at h
    cases e : rs[i]? with
    | none => rw [e] at h; cases h
    | some r => rw [e] at h; exact ⟨r, e, (Option.some.inj h).symm⟩
  refine r_drop (N := M) (P := mIs .non) (j_call c1 hr (ja_cons (P := mD K (.list (rs.map rwD))) (j_var 0 hd) ja_nil) fun vs M' g p => ?_) eM fun v1 N1 C1 g1 p1 => ?_
  · obtain ⟨y, rfl, hy⟩ := la1 p
    exact ⟨y, rs, rfl, hy, R.nd, hfew, rfl⟩
  have hd1 := dp_mono g1.up hd
  refine r_setE 1 (te_mkCat (N := N1) (us := usOf rs) (P := mOb N1 (obU K (usOf rs)) (rs.map rwD).length) hM FI (j := 4) (hr.mono (by decide)) hmC hbI (j_of (pe_dcK (g := gTup K 3 (gCons (gName 2) (gCons (gName 3) (gCons (gName 4) gNil)))) (own := [("module", 2), ("names", 3), ("versions", 4)]) (hu_of hr) rfl hN (pi_list pE) (blk_by (N := ["rows", "catalog", "module", "names", "versions", "windows"]) (sc := defScope (top 47)) (by decide +kernel)) (fun s0 H0 C0 cl fp => pg_tup rfl (pgs_cons (pg_name (i := 2) hN rfl (Or.inl rfl)) (pgs_cons (pg_name (i := 3) hN rfl (Or.inl rfl)) (pgs_cons (pg_name (i := 4) hN rfl (Or.inl rfl)) pgs_nil)))) pTsb pEb pEb) (ep_cm _ (ji_list (j_var 0 (P := mD K _) hd1)) (fun D M' e => ⟨[], rfl, by rw [List.take_zero]; exact .nil⟩) (fun i y M2 hi hM2 hy C0 eC => ?_) gm_tup3)) g1.sub (fun v M' g p => ?_) R.usOk fun a Nc C2 np ca ds rl => ?_) hN
  · obtain ⟨d, h1, h2⟩ := hy
    obtain ⟨r, hr1, rfl⟩ := rowAt i d h1
    obtain ⟨T, u, l, rfl, hT, hu, hl⟩ := dp_row h2
    exact gp3 (ex_t eC hT) ⟨rfl, M2, Gr.refl eC, evt fun s0 H0 C0 cl fp => jts_nil, tbU_ok (u := (r.nm, r.us)) (usOf_at hr1) (by rw [usOf_nm]; exact R.nd) (by omega) (ev_ep (evb (P := mIs (.str r.nm)) fun s0 H0 C0 cl fp => jv 2)) (evb (P := mD K (.tuple (strsD r.us))) fun s0 H0 C0 cl fp => j_var 3 hu)⟩
  · obtain ⟨D0, o, rfl, h0, h1, kvs, rfl, h2⟩ := p
    rw [hrl, ← hul, List.take_length] at h2
    exact ⟨D0, kvs, rfl, h0, h1, h2⟩
  have np0 : NewP C Nc C2 := np.pre g1.ext
  have e1C2 : Ex N1 C2 := g1.sub.trans np.ext
  have ap1 : Apart Nc N1 := np.apart g1.sub
  refine r_for (N := N1) (n := (rs.map rwD).length) (pi_list pE) (ji_list (j_var 0 (P := mD K _) hd1)) e1C2 (pg_tup rfl (pgs_cons (pg_name (i := 2) hN rfl (Or.inl rfl)) (pgs_cons (pg_name (i := 3) hN rfl (Or.inl rfl)) (pgs_cons (pg_name (i := 4) hN rfl (Or.inl rfl)) pgs_nil)))) PassesOwn.never rfl
    (fun N2 i σ C3 => ∃ (Nk : Hp) (W : Wr) (sh : Nat → Nat) (o2 o3 o4 o5 : Option V), Ex N2 C3 ∧ NewP C Nk C3 ∧ Apart Nk N2 ∧ CatAt K Cc Nk a W ∧ CatDs a W ∧ RecLe Nk a (4 * i) ∧ Shown rs sh W ∧ (∀ p r, p < i → rs[p]? = some r → sh p = r.vs.length) ∧ (∀ p, i ≤ p → sh p = 0) ∧ σ = [some v, some (.ref a.c), o2, o3, o4, o5])
    (fun N2 C3 g => ⟨Nc, w0 (usOf rs), fun _ => 0, none, none, none, none, g.sub, np0.grow g.ext, ap1.grow np.sub g, ca, ds, rl, R.shown0, fun p r h => (by omega), fun _ _ => rfl, rfl⟩) (fun N2 i σ C3 ⟨_, _, _, _, _, _, _, h, _⟩ => h) (fun N2 i x σ C3 M4 C4 e2 hi hP2 gM hx => ?_) fun N2 σ C3 e2 hP2 => ?_
  · obtain ⟨Nk, W, sh, o2, o3, o4, o5, eN2, npk, apk, cak, dsk, rlk, S, hs1, hs2, rfl⟩ := hP2
    obtain ⟨d, h1, h2⟩ := hx
    obtain ⟨r, hr1, rfl⟩ := rowAt i d h1
    obtain ⟨Tb, u, l, rfl, hT, hu, hl⟩ := dp_row h2
    have hrm : r ∈ rs := List.mem_of_getElem? hr1
    have hvf := (R.ok r hrm).few
    have hvl : (r.vs.map winsD).length = r.vs.length := List.length_map _
    have hi3 : i < 3 := by omega
    refine gp3 (ex_t gM.sub hT) ?_
    refine r_for (N := M4) (n := (r.vs.map winsD).length) (pi_list pE) (ji_list (j_var 4 (P := mD K _) hl)) gM.sub (pg_name (i := 5) hN rfl (Or.inl rfl)) PassesOwn.never rfl
      (fun N5 j σ C5 => ∃ (Nk : Hp) (W : Wr) (sh : Nat → Nat) (o5 : Option V), Ex N5 C5 ∧ Ex M4 N5 ∧ NewP C Nk C5 ∧ Apart Nk N5 ∧ CatAt K Cc Nk a W ∧ CatDs a W ∧ RecLe Nk a (4 * i + j) ∧ Shown rs sh W ∧ (∀ p r, p < i → rs[p]? = some r → sh p = r.vs.length) ∧ sh i = j ∧ (∀ p, i < p → sh p = 0) ∧ σ = [some v, some (.ref a.c), some (.str r.nm), some u, some l, o5])
      (fun N5 C5 g5 => ⟨Nk, W, sh, o5, g5.sub, g5.up, npk.grow (gM.ext.trans g5.ext), (apk.grow npk.sub gM).grow (npk.sub.trans gM.ext) g5, cak, dsk, rlk, S, hs1, hs2 i (Nat.le_refl _), fun p hp => hs2 p (Nat.le_of_lt hp), rfl⟩) (fun N5 j σ C5 ⟨_, _, _, _, h, _⟩ => h) (fun N5 j x σ C5 M6 C6 e5 hj hP5 gM5 hx => ?_) fun N5 σ C5 e5 hP5 => ?_
    · obtain ⟨Nk, W, sh, o5, eN5, eM5, npk, apk, cak, dsk, rlk, S, hs1, hsi, hs2, rfl⟩ := hP5
      obtain ⟨d, h3, h4⟩ := hx
      have hj' : j < r.vs.length := by omega
      rw [List.getElem?_map, List.getElem?_eq_getElem hj'] at h3
      have h3' : winsD r.vs[j] = d := Option.some.inj h3
      subst h3'
      have hq : r.vs[sh i]? = some r.vs[j] := by rw [hsi]; exact List.getElem?_eq_getElem hj'
      obtain ⟨Po, S'⟩ := S.pub R hr1 hq
      have ap6 := apk.grow npk.sub gM5
      have np6 := npk.grow gM5.ext
      refine r_exprE (te_meth (N := Nk) (G := M6) (Pm := fun v N' => CatAt K Cc N' a (pubW W r.nm r.us r.vs[j]) ∧ RecLe N' a (4 * i + j + 1)) c2 T.cl hr (jv 1) cak.obj (catF_no a (by decide +kernel)) (ja_cons (P := mIs (.str r.nm)) (jv 2) (ja_cons (P := mD K (winsD r.vs[j])) (j_var 5 h4) ja_nil)) np6.sub gM5.sub ap6 (fun vs G' eG apG p => ?_) fun v6 N7 C7 mu pm => ?_)
      · obtain ⟨y, z, rfl, rfl, hz⟩ := la2 p
        exact ⟨a, W, r.nm, r.us, r.vs[j], z, 4 * i + j, rfl, cak, dsk, S.ok, Po.us, hz, Po.len, Po.ok, Po.rise, Po.cnt, rlk, by omega, fun N' h1 h2 => ⟨h1, h2⟩⟩
      · obtain ⟨ca7, rl7⟩ := pm
        refine r_nil ⟨N7, pubW W r.nm r.us r.vs[j], _, _, (gM5.up.trans (ap6.ex mu gM5.sub) : Ex N5 C7), eM5, np6.mu mu, (ap6.next mu gM5.sub).of gM5.up, ca7, dsk.of_us rfl, rl7, S', fun p r' hp hr' => ?_, ?_, fun p hp => ?_, rfl⟩
        · show (if p = i then sh i + 1 else sh p) = _
          rw [if_neg (by omega)]
          exact hs1 p r' hp hr'
        · show (if i = i then sh i + 1 else sh i) = _
          rw [if_pos rfl, hsi]
        · show (if p = i then sh i + 1 else sh p) = _
          rw [if_neg (by omega)]
          exact hs2 p hp
    · obtain ⟨Nk, W, sh, o5, eN5, eM5, npk, apk, cak, dsk, rlk, S, hs1, hsi, hs2, rfl⟩ := hP5
      refine r_nil ⟨Nk, W, sh, _, _, _, o5, (gM.up.trans (eM5.trans eN5) : Ex N2 C5), npk, apk.of (gM.up.trans eM5), cak, dsk, rlk.mono (by omega), S, fun p r' hp hr' => ?_, fun p hp => hs2 p (by omega), rfl⟩
      by_cases z : p = i
      · subst z
        rw [hr1] at hr'
        cases hr'
        rw [hsi, hvl]
      · exact hs1 p r' (by omega) hr'
  · obtain ⟨Nk, W, sh, o2, o3, o4, o5, eN2, npk, apk, cak, dsk, rlk, S, hs1, hs2, rfl⟩ := hP2
    refine r_ret (N := noHp) (jv 1) no_ex fun v7 N7 C7 g7 p7 => ?_
    have p7' : v7 = V.ref a.c := p7
    subst p7'
    exact rt _ Nk C7 (npk.grow g7.ext) (hP a W Nk cak dsk (rlk.mono (by omega)) (S.full fun p r hp => hs1 p r (by have := (List.getElem?_eq_some_iff.mp hp).1; omega) hp))
end
end Gs

set_option Elab.async false
set_option linter.all false
set_option maxRecDepth 100000
set_option maxHeartbeats 4000000
/-! GsWo: the law's own record of a catalog: its addresses, how it is built. -/
namespace Gs
open PySem PySem.Spec PyProof.Rows L2 Evl
/-- its lists -/
inductive WK where
  | m
  | u (m : PySem.Str)
  | t (m : PySem.Str)
  | w (m n : PySem.Str)
  deriving DecidableEq
def wkA (b : WldA) : WK → Addr
  | .m => b.mo
  | .u m => b.ul m
  | .t m => b.tl m
  | .w m n => b.wl m n
def WkIn (W : Wr) : WK → Prop
  | .m => True
  | .u m => m ∈ W.mods
  | .t m => m ∈ W.mods
  | .w m n => ∃ ns, (m, ns) ∈ W.us ∧ n ∈ ns
def WkAt (K : PySem.W.Frag) (M : Hp) (W : Wr) (q : Addr) : WK → Prop
  | .m => M q = some (.lst (W.mods.map V.str))
  | .u m => ∃ ns, (m, ns) ∈ W.us ∧ M q = some (.lst (ns.map V.str))
  | .t m => M q = some (.lst ((W.there m).map V.int))
  | .w m n => ∃ ws, M q = some (.lst ws) ∧ DpAll K M ws ((W.win m n).map wD)
theorem WkAt.mono {K : PySem.W.Frag} {M M' : Hp} {W : Wr} {q : Addr} (e : Ex M M') : ∀ {x : WK}, WkAt K M W q x → WkAt K M' W q x
  | .m, h => e _ _ h
  | .u m, ⟨ns, h1, h2⟩ => ⟨ns, h1, e _ _ h2⟩
  | .t m, h => e _ _ h
  | .w m n, ⟨ws, h1, h2⟩ => ⟨ws, e _ _ h1, dps_mono e h2⟩
theorem WkAt.lst {K : PySem.W.Frag} {M : Hp} {W : Wr} {q : Addr} : ∀ {x : WK}, WkAt K M W q x → ∃ xs, M q = some (.lst xs)
  | .m, h => ⟨_, h⟩
  | .u m, ⟨ns, h1, h2⟩ => ⟨_, h2⟩
  | .t m, h => ⟨_, h⟩
  | .w m n, ⟨ws, h1, h2⟩ => ⟨_, h1⟩
structure WldDs (b : WldA) (W : Wr) : Prop where
  tw : b.th ≠ b.w
  tu : b.th ≠ b.us
  dj : ∀ x y, WkIn W x → WkIn W y → x ≠ y → wkA b x ≠ wkA b y
structure WBld (K : PySem.W.Frag) (C0 M : Hp) (W : Wr) (adr : WK → Addr) (done : List WK) : Prop where
  at_ : ∀ x ∈ done, C0 (adr x) = none ∧ WkAt K M W (adr x) x
  inj : ∀ x ∈ done, ∀ y ∈ done, x ≠ y → adr x ≠ adr y
theorem WBld.mono {K : PySem.W.Frag} {C0 M M' : Hp} {W : Wr} {adr : WK → Addr} {done : List WK} (h : WBld K C0 M W adr done) (e : Ex M M') : WBld K C0 M' W adr done := ⟨fun x hx => ⟨(h.at_ x hx).1, (h.at_ x hx).2.mono e⟩, h.inj⟩
theorem WBld.put {K : PySem.W.Frag} {C0 M M' : Hp} {W : Wr} {adr : WK → Addr} {done : List WK} (h : WBld K C0 M W adr done) (e : Ex M M') {x : WK} {q : Addr} (hq : M q = none) (hw : WkAt K M' W q x) (hC : C0 q = none) : WBld K C0 M' W (fun y => if y = x then q else adr y) (done ++ [x]) := by
  have key : ∀ y ∈ done ++ [x], y ≠ x → y ∈ done := fun y hy hne => by
    rcases List.mem_append.mp hy with h | h
    · exact h
    · exact absurd (by simpa using h) hne
  have hne : ∀ y ∈ done, adr y ≠ q := fun y hy z => by
    obtain ⟨xs, h1⟩ := (h.at_ y hy).2.lst
    rw [z, hq] at h1
    cases h1
  refine ⟨fun y hy => ?_, fun y hy y' hy' hn => ?_⟩
  · by_cases z : y = x
    · subst z; simp only [if_pos]; exact ⟨hC, hw⟩
    · simp only [if_neg z]
      exact ⟨(h.at_ y (key y hy z)).1, (h.at_ y (key y hy z)).2.mono e⟩
  · by_cases z : y = x
    · by_cases z' : y' = x
      · exact absurd (z.trans z'.symm) hn
      · simp only [if_pos z, if_neg z']
        exact (hne y' (key y' hy' z')).symm
    · by_cases z' : y' = x
      · simp only [if_neg z, if_pos z']
        exact hne y (key y hy z)
      · simp only [if_neg z, if_neg z']
        exact h.inj y (key y hy z) y' (key y' hy' z') hn
/-- what the dicts hold -/
structure WDic (adr : WK → Addr) (done : List WK) (kU kT : List (Key × V)) (kW : List (List Key × V)) : Prop where
  u : ∀ m, WK.u m ∈ done → valV kU (.inr m) = some (.ref (adr (.u m)))
  t : ∀ m, WK.t m ∈ done → valV kT (.inr m) = some (.ref (adr (.t m)))
  w : ∀ m n, WK.w m n ∈ done → valV kW [.inr m, .inr n] = some (.ref (adr (.w m n)))
section
variable {adr : WK → Addr} {done : List WK} {kU kT : List (Key × V)} {kW : List (List Key × V)} {q : Addr} {m n : PySem.Str}
theorem WDic.old {x y : WK} (h : y ∈ done ++ [x]) (hne : y ≠ x) : y ∈ done := by
  rcases List.mem_append.mp h with h | h
  · exact h
  · exact absurd (by simpa using h) hne
theorem WDic.putU (h : WDic adr done kU kT kW) : WDic (fun y => if y = .u m then q else adr y) (done ++ [.u m]) (putK kU (.inr m) (.ref q)) kT kW := by
  refine ⟨fun m' hm => ?_, fun m' hm => ?_, fun m' n' hm => ?_⟩
  · rw [valV_put]
    by_cases z : m' = m
    · subst z; simp
    · have z1 : ¬ (Sum.inr m' : Key) = .inr m := fun e => z (Sum.inr.inj e)
      have z2 : ¬ WK.u m' = .u m := fun e => z (by injection e)
      rw [if_neg z1]; simp only [if_neg z2]
      exact h.u m' (WDic.old hm z2)
  · have z2 : ¬ WK.t m' = .u m := fun e => by cases e
    simp only [if_neg z2]
    exact h.t m' (WDic.old hm z2)
  · have z2 : ¬ WK.w m' n' = .u m := fun e => by cases e
    simp only [if_neg z2]
    exact h.w m' n' (WDic.old hm z2)
theorem WDic.putT (h : WDic adr done kU kT kW) : WDic (fun y => if y = .t m then q else adr y) (done ++ [.t m]) kU (putK kT (.inr m) (.ref q)) kW := by
  refine ⟨fun m' hm => ?_, fun m' hm => ?_, fun m' n' hm => ?_⟩
  · have z2 : ¬ WK.u m' = .t m := fun e => by cases e
    simp only [if_neg z2]
    exact h.u m' (WDic.old hm z2)
  · rw [valV_put]
    by_cases z : m' = m
    · subst z; simp
    · have z1 : ¬ (Sum.inr m' : Key) = .inr m := fun e => z (Sum.inr.inj e)
      have z2 : ¬ WK.t m' = .t m := fun e => z (by injection e)
      rw [if_neg z1]; simp only [if_neg z2]
      exact h.t m' (WDic.old hm z2)
  · have z2 : ¬ WK.w m' n' = .t m := fun e => by cases e
    simp only [if_neg z2]
    exact h.w m' n' (WDic.old hm z2)
theorem WDic.putW (h : WDic adr done kU kT kW) : WDic (fun y => if y = .w m n then q else adr y) (done ++ [.w m n]) kU kT (putK kW [.inr m, .inr n] (.ref q)) := by
  refine ⟨fun m' hm => ?_, fun m' hm => ?_, fun m' n' hm => ?_⟩
  · have z2 : ¬ WK.u m' = .w m n := fun e => by cases e
    simp only [if_neg z2]
    exact h.u m' (WDic.old hm z2)
  · have z2 : ¬ WK.t m' = .w m n := fun e => by cases e
    simp only [if_neg z2]
    exact h.t m' (WDic.old hm z2)
  · rw [valV_put]
    by_cases z : WK.w m' n' = .w m n
    · cases z; simp
    · have z1 : ¬ ([.inr m', .inr n'] : List Key) = [.inr m, .inr n] := fun e => z (by
        injection e with e1 e2
        injection e2 with e2 _
        rw [Sum.inr.inj e1, Sum.inr.inj e2])
      rw [if_neg z1]; simp only [if_neg z]
      exact h.w m' n' (WDic.old hm z)
end
inductive WldDom (b : WldA) (W : Wr) : Addr → Prop
  | w : WldDom b W b.w
  | us : WldDom b W b.us
  | wi : WldDom b W b.wi
  | th : WldDom b W b.th
  | l {x : WK} : WkIn W x → WldDom b W (wkA b x)
theorem WldAt.rst {K : PySem.W.Frag} {C : Hp} {b : WldA} {W : Wr} (h : WldAt K C b W) : WldAt K (Gs.rst (WldDom b W) C) b W := by
  refine ⟨rst_at .w h.dd, rst_at (.l (x := .m) trivial) h.mo, ?_, fun m ns hm => rst_at (.l (x := .u m) (us_mem hm)) (h.ul m ns hm), ?_, fun m ns n h1 h2 => ?_, ?_, fun m hm => rst_at (.l (x := .t m) hm) (h.tl m hm)⟩
  · obtain ⟨kvs, h1, h2, h3⟩ := h.us
    exact ⟨kvs, rst_at .us h1, h2, h3⟩
  · obtain ⟨kvs, h1, h2, h3⟩ := h.wi
    exact ⟨kvs, rst_at .wi h1, h2, h3⟩
  · obtain ⟨ws, h3, h4⟩ := h.wl m ns n h1 h2
    refine ⟨ws, rst_at (.l (x := .w m n) ⟨ns, h1, h2⟩) h3, dps_tups rst_tup (noLs_all fun d hd => ?_) h4⟩
    obtain ⟨q, _, rfl⟩ := List.mem_map.mp hd
    exact noL_wD q
  · obtain ⟨kvs, h1, h2, h3⟩ := h.th
    exact ⟨kvs, rst_at .th h1, h2, h3⟩
theorem WldAt.dom {K : PySem.W.Frag} {C : Hp} {b : WldA} {W : Wr} (h : WldAt K C b W) {x : Addr} (d : WldDom b W x) : ∃ o, C x = some o := by
  cases d with
  | w => exact ⟨_, h.dd⟩
  | us => obtain ⟨_, h1, _⟩ := h.us; exact ⟨_, h1⟩
  | wi => obtain ⟨_, h1, _⟩ := h.wi; exact ⟨_, h1⟩
  | th => obtain ⟨_, h1, _⟩ := h.th; exact ⟨_, h1⟩
  | @l x hx =>
    cases x with
    | m => exact ⟨_, h.mo⟩
    | u m => obtain ⟨ns, hns⟩ := mem_us hx; exact ⟨_, h.ul m ns hns⟩
    | t m => exact ⟨_, h.tl m hx⟩
    | w m n =>
      obtain ⟨ns, h1, h2⟩ := hx
      obtain ⟨ws, h3, _⟩ := h.wl m ns n h1 h2
      exact ⟨_, h3⟩
/-! ### rules -/
section
variable {X : Cx} {e e1 e2 o i : Expr} {rest : List Stmt} {σ : L2.St} {N C : Hp} {P : MP} {D : Ends} {pos pos' pt p p2 : Pos} {s : Addr} {kt : Nat} {K : PySem.W.Frag}
/-- o[i] = e, e a new thing -/
theorem r_dputP {kvs : List (Key × V)} {k : Key} (hu : X.A.units + 1 < cLine) (he : J X e σ N P) (ho : J X o σ N (mIs (.ref s))) (hi : J X i σ N (mIs (kV k))) (eN : Ex N C) (hN : N s = none) (hC : C s = some (.dK kvs)) (hz : kvs.length < 100000) (kk : ∀ v N' C', Gr N C N' C' → N' s = none → P.p v N' → tR X rest D σ (upd C' s (.dK (putK kvs k v))))
    (hs : swapsWith e (some (.Subscript o i pos')) pos.line X.env = pure false := by rfl) : tR X (.Assign [.Subscript o i pos'] e pos :: rest) D σ C :=
  r_of (ps_dput hu pE pE pE hs) (he C eN _ fun v N1 C1 g p => (ho.up g.up).ev C1 g.sub _ fun C2 e2 => (hi.up g.up).ev C2 (g.sub.trans e2) _ fun C3 e3 => ⟨s, _, rfl, DPut.k ((e2.trans e3) _ _ (g.ext _ _ hC)) (sz_lt hz), kk v N1 C3 (g.grow (e2.trans e3)) (g.outO hN hC fun _ z => by cases z) p⟩)
/-- o[e1, e2] = e -/
theorem r_dput2P {kvs : List (List Key × V)} {k1 k2 : Key} (hu : X.A.units + 1 < cLine) (he : J X e σ N P) (ho : J X o σ N (mIs (.ref s))) (h1 : J X e1 σ N (mIs (kV k1))) (h2 : J X e2 σ N (mIs (kV k2))) (eN : Ex N C) (hN : N s = none) (hC : C s = some (.dT kvs)) (hz : kvs.length < 100000) (kk : ∀ v N' C', Gr N C N' C' → N' s = none → P.p v N' → tR X rest D σ (upd C' s (.dT (putK kvs [k1, k2] v))))
    (hs : swapsWith e (some (.Subscript o (.Tuple [e1, e2] kt pt) pos')) pos.line X.env = pure false := by rfl) (hs1 : starEach [e1, e2] X.env = (false, eval e1 X.env) :: starEach [e2] X.env := by rfl) (hs2 : starEach [e2] X.env = (false, eval e2 X.env) :: starEach [] X.env := by rfl) : tR X (.Assign [.Subscript o (.Tuple [e1, e2] kt pt) pos'] e pos :: rest) D σ C :=
  r_of (ps_dput hu pE (pe_tup (pa_cons pE (pa_cons pE pa_nil hs2) hs1)) pE hs) (he C eN _ fun v N1 C1 g p => (ho.up g.up).ev C1 g.sub _ fun C2 e2 => eu_tup (ea_cons (h1.up g.up).ev (ea_cons (h2.up g.up).ev ea_nil)) (by show 2 ≤ 100000; decide) C2 (g.sub.trans e2) _ fun T C3 hT e3 h3 => ⟨s, _, rfl, DPut.t (k := [k1, k2]) ((e2.trans e3) _ _ (g.ext _ _ hC)) h3 (sz_lt hz), kk v N1 C3 (g.grow (e2.trans e3)) (g.outO hN hC fun _ z => by cases z) p⟩)
theorem j_newDT : J X (.Dict [] [] pos) σ N (mNew N (.dT [])) := j_of pe_dnewT fun C eC Q q p hp => q (.ref p) (upd N p (.dT [])) _ ((Gr.refl eC).new hp) ⟨p, rfl, fresh_back eC hp, upd_same⟩
/-- list(range(n)) -/
theorem j_listRg {p3 p4 : Pos} {n : Nat} (hc : X.calm = true) (he : J X e σ N (mIs (.int (n : Int)))) (hn : n ≤ 1000) (hl : X.mg "list" = none) (hr : X.mg "range" = none) (hg1 : Gl X "list" := by rfl) (hg2 : Gl X "range" := by rfl)
    (na : starEach [e] X.env = (false, eval e X.env) :: starEach [] X.env := by rfl) (na2 : starEach [.Call (.Name "range" p3) [e] [] p4] X.env = (false, eval (.Call (.Name "range" p3) [e] [] p4) X.env) :: starEach [] X.env := by rfl) : J X (.Call (.Name "list" p) [.Call (.Name "range" p3) [e] [] p4] [] pos) σ N (mNew N (.lst ((List.range n).map fun i : Nat => V.int (i : Int)))) :=
  j_of (pe_listRg hc hg1 hl (prg_1 hg2 hr pE na) na2) fun C eC Q q => he.ev C eC _ fun C1 e1 => ⟨n, rfl, RgOk.of_le (by decide) (by omega) (by decide) (by omega), fun l hl => by
    have e : rgV 0 (n : Int) = (List.range n).map fun i : Nat => V.int (i : Int) := by
      unfold rgV
      rw [show ((n : Int) - 0).toNat = n by omega]
      refine List.map_congr_left fun i _ => ?_
      rw [Int.zero_add]
    rw [e]
    exact q (.ref l) (upd N l (.lst _)) _ ((Gr.of_ex eC e1).new hl) ⟨l, rfl, fresh_back (eC.trans e1) hl, upd_same⟩⟩
end
theorem ji_enT {σ : L2.St} {N : Hp} {ta : TA} {K : PySem.W.Frag} {ds : List PyData} (h : EvAP ta σ N (lCons (mD K (.tuple ds)) lNil)) : JI (iEnT K ta) σ N ds.length fun j => ⟨fun x H => ∃ T y d, x = .ref T ∧ ds[j]? = some d ∧ Dp K H y d ∧ H T = some (.tup [.int (j : Nat), y]), fun e ⟨T, y, d, h1, h2, h3, h4⟩ => ⟨T, y, d, h1, h2, dp_mono e h3, e _ _ h4⟩⟩ := fun C eC R k =>
  h C eC _ fun vs N1 C1 g p => by
    obtain ⟨x, rfl, hx⟩ := la1 p
    obtain ⟨a, xs, rfl, s, al⟩ := dp_tup hx
    have hl : xs.length = ds.length := dps_len al
    have W := walk_enT (K := K) (a := a) (xs := xs)
    refine ⟨a, xs, rfl, ex_t g.sub s, k _ N1 C1 g ⟨fun i H hi e => W.goes i H (by rw [hl]; exact hi) (ex_t e s), fun H e => by rw [← hl]; exact W.stops H (ex_t e s), fun i H x H' hi e y => ?_⟩⟩
    obtain ⟨T, u, v, rfl, hT, rfl, hu, hv⟩ := W.yields i H x H' (by rw [hl]; exact hi) (ex_t e s) y
    have hu' : V.int (i : Nat) = u := Option.some.inj hu
    subst hu'
    obtain ⟨d, hd, hdv⟩ := dps_get al hv
    have hn1 : N1 T = none := fresh_back e hT
    exact ⟨upd N1 T (.tup _), (Gr.refl e).new hT, T, v, d, rfl, hd, dp_mono (Ex.new hn1) hdv, upd_same⟩
end Gs

set_option Elab.async false
set_option linter.all false
set_option maxRecDepth 100000
set_option maxHeartbeats 4000000
/-! GsWo2: _law_world. -/
namespace Gs
open PySem PySem.Spec PyProof.Rows L2 Evl
theorem range_getD {α β : Type} (l : List α) (f : α → β) (d : α) : ((List.range l.length).filter fun _ => true).map (fun k => f (l.getD k d)) = l.map f := by
  rw [List.filter_eq_self.mpr (fun _ _ => rfl)]
  refine List.ext_getElem (by rw [List.length_map, List.length_range, List.length_map]) fun n h1 h2 => ?_
  have hn : n < l.length := by rw [List.length_map] at h2; exact h2
  rw [List.getElem_map, List.getElem_range, List.getElem_map, List.getD_eq_getElem?_getD, List.getElem?_eq_getElem hn]
  rfl
theorem del_nn {H : Hp} {x b : Addr} (h : H b = none) : L2.del H x b = none := by
  by_cases z : b = x
  · subst z; exact del_same
  · rw [del_ne z]; exact h
theorem wld_merge (b : WldA) : mergeK [] (wldF b) = wldF b := by
  have e1 : putK ([] : List (Key × V)) (.inr "modules") (V.ref b.mo) = [(.inr "modules", .ref b.mo)] := putK_new _ rfl
  have e2 : putK ([(.inr "modules", .ref b.mo)] : List (Key × V)) (.inr "uses") (V.ref b.us) = [(.inr "modules", .ref b.mo), (.inr "uses", .ref b.us)] := putK_new _ ((valV_neg (inrNe (by decide +kernel))).trans rfl)
  have e3 : putK ([(.inr "modules", .ref b.mo), (.inr "uses", .ref b.us)] : List (Key × V)) (.inr "windows") (V.ref b.wi) = [(.inr "modules", .ref b.mo), (.inr "uses", .ref b.us), (.inr "windows", .ref b.wi)] := putK_new _ ((valV_neg (inrNe (by decide +kernel))).trans ((valV_neg (inrNe (by decide +kernel))).trans rfl))
  have e4 : putK ([(.inr "modules", .ref b.mo), (.inr "uses", .ref b.us), (.inr "windows", .ref b.wi)] : List (Key × V)) (.inr "there") (V.ref b.th) = wldF b := putK_new _ ((valV_neg (inrNe (by decide +kernel))).trans ((valV_neg (inrNe (by decide +kernel))).trans ((valV_neg (inrNe (by decide +kernel))).trans rfl)))
  show putK (putK (putK (putK [] (.inr "modules") (V.ref b.mo)) (.inr "uses") (V.ref b.us)) (.inr "windows") (V.ref b.wi)) (.inr "there") (V.ref b.th) = wldF b
  rw [e1, e2, e3, e4]
/-- the record while it is built -/
structure WSt (K : PySem.W.Frag) (M C : Hp) (W : Wr) (us wi th mo : Addr) (Mi Cx : Hp) (adr : WK → Addr) (done : List WK) (kU kT : List (Key × V)) (kW : List (List Key × V)) : Prop where
  gr : Gr M C Mi Cx
  nu : Mi us = none
  nw : Mi wi = none
  nt : Mi th = none
  hU : Cx us = some (.dK kU)
  hT : Cx th = some (.dK kT)
  hW : Cx wi = some (.dT kW)
  dic : WDic adr done kU kT kW
  bld : WBld K C Mi W adr done
  m1 : WK.m ∈ done
  m2 : adr .m = mo
structure WFr (C : Hp) (us wi th : Addr) : Prop where
  cu : C us = none
  cw : C wi = none
  ct : C th = none
  ut : us ≠ th
section
variable {K : PySem.W.Frag} {M C Mi Cx N' C' : Hp} {W : Wr} {us wi th mo q : Addr} {adr : WK → Addr} {done : List WK} {kU kT : List (Key × V)} {kW : List (List Key × V)} {m n : PySem.Str} {xs : List V}
theorem WSt.ext (h : WSt K M C W us wi th mo Mi Cx adr done kU kT kW) (g : Gr Mi Cx N' C') : WSt K M C W us wi th mo N' C' adr done kU kT kW :=
  ⟨h.gr.trans g, g.outO h.nu h.hU (fun _ z => by cases z), g.outO h.nw h.hW (fun _ z => by cases z), g.outO h.nt h.hT (fun _ z => by cases z), g.ext _ _ h.hU, g.ext _ _ h.hT, g.ext _ _ h.hW, h.dic, h.bld.mono g.up, h.m1, h.m2⟩
theorem WSt.putU (h : WSt K M C W us wi th mo Mi Cx adr done kU kT kW) (fr : WFr C us wi th) (g : Gr Mi Cx N' C') (hq : Mi q = none) (hq' : N' q = some (.lst xs)) (hw : WkAt K N' W q (.u m)) : WSt K M C W us wi th mo N' (upd C' us (.dK (putK kU (.inr m) (.ref q)))) (fun y => if y = .u m then q else adr y) (done ++ [.u m]) (putK kU (.inr m) (.ref q)) kT kW := by
  have h' := h.ext g
  have e1 : wi ≠ us := ne_ob h'.hW h'.hU fun z => by cases z
  refine ⟨h'.gr.mut fr.cu h'.nu, h'.nu, h'.nw, h'.nt, upd_same, by rw [upd_ne fr.ut.symm]; exact h'.hT, by rw [upd_ne e1]; exact h'.hW, h.dic.putU, h.bld.put g.up hq hw (fresh_back h.gr.ext (dom_new g hq' hq fun _ z => by cases z)), List.mem_append_left _ h.m1, ?_⟩
  show (if WK.m = .u m then q else adr .m) = mo
  rw [if_neg (fun z => by cases z)]
  exact h.m2
theorem WSt.putT (h : WSt K M C W us wi th mo Mi Cx adr done kU kT kW) (fr : WFr C us wi th) (g : Gr Mi Cx N' C') (hq : Mi q = none) (hq' : N' q = some (.lst xs)) (hw : WkAt K N' W q (.t m)) : WSt K M C W us wi th mo N' (upd C' th (.dK (putK kT (.inr m) (.ref q)))) (fun y => if y = .t m then q else adr y) (done ++ [.t m]) kU (putK kT (.inr m) (.ref q)) kW := by
  have h' := h.ext g
  have e1 : wi ≠ th := ne_ob h'.hW h'.hT fun z => by cases z
  refine ⟨h'.gr.mut fr.ct h'.nt, h'.nu, h'.nw, h'.nt, by rw [upd_ne fr.ut]; exact h'.hU, upd_same, by rw [upd_ne e1]; exact h'.hW, h.dic.putT, h.bld.put g.up hq hw (fresh_back h.gr.ext (dom_new g hq' hq fun _ z => by cases z)), List.mem_append_left _ h.m1, ?_⟩
  show (if WK.m = .t m then q else adr .m) = mo
  rw [if_neg (fun z => by cases z)]
  exact h.m2
theorem WSt.putW (h : WSt K M C W us wi th mo Mi Cx adr done kU kT kW) (fr : WFr C us wi th) (g : Gr Mi Cx N' C') (hq : Mi q = none) (hq' : N' q = some (.lst xs)) (hw : WkAt K N' W q (.w m n)) : WSt K M C W us wi th mo N' (upd C' wi (.dT (putK kW [.inr m, .inr n] (.ref q)))) (fun y => if y = .w m n then q else adr y) (done ++ [.w m n]) kU kT (putK kW [.inr m, .inr n] (.ref q)) := by
  have h' := h.ext g
  have e1 : us ≠ wi := ne_ob h'.hU h'.hW fun z => by cases z
  have e2 : th ≠ wi := ne_ob h'.hT h'.hW fun z => by cases z
  refine ⟨h'.gr.mut fr.cw h'.nw, h'.nu, h'.nw, h'.nt, by rw [upd_ne e1]; exact h'.hU, by rw [upd_ne e2]; exact h'.hT, upd_same, h.dic.putW, h.bld.put g.up hq hw (fresh_back h.gr.ext (dom_new g hq' hq fun _ z => by cases z)), List.mem_append_left _ h.m1, ?_⟩
  show (if WK.m = .w m n then q else adr .m) = mo
  rw [if_neg (fun z => by cases z)]
  exact h.m2
end
theorem Full.mods {rs : List Rw} {W : Wr} (h : Full rs W) : W.mods = rs.map (·.nm) := by
  unfold Wr.mods
  rw [h.us, usOf_nm]
theorem Full.there {rs : List Rw} {W : Wr} (h : Full rs W) {r : Rw} (hr : r ∈ rs) : (W.there r.nm).map V.int = (List.range r.vs.length).map fun i : Nat => V.int (i : Int) := by
  unfold Wr.there
  rw [(h.at_ r hr).1, h.wd, List.filter_eq_self.mpr (fun i _ => by simp), List.map_map]
  rfl
def rowIn (r : Rw) (done : List WK) : Prop := WK.u r.nm ∈ done ∧ WK.t r.nm ∈ done ∧ ∀ n ∈ r.us, WK.w r.nm n ∈ done
section
variable {P : Program} {w : World} {K : PySem.W.Frag} {mg : PySem.Str → Option Value} {base : Heap}
def preWorld (K : PySem.W.Frag) (vs : List V) (N : Hp) (Pm : V → Hp → Prop) : Prop := ∃ (v : V) (rs : List Rw) (W : Wr), vs = [v] ∧ Dp K N v (.list (rs.map rwD)) ∧ RwsIs rs ∧ Full rs W ∧ ∀ b N', WldAt K N' b W → WldDs b W → Pm (.ref b.w) N'
theorem ok_world (F : DF K mg "_law_world" (top 57)) (B : Bt mg) : ClN P w K mg base 1 "_law_world" (preWorld K) := by
  refine cln_of (N := ["_law_rows_here", "_law_world_here", "_law_name_here", "_law_uses", "_law_versions", "_law_place", "_law_used", "_law_row", "_law_windows_here"]) (ps := ["_law_rows_here"]) F (by decide +kernel) (fun vs M Pm h => ?_) (fun _ _ _ _ _ _ us hl => match us, hl with | [_], _ => rfl) fun f cdv A outer s C E vs M Pm D hr eM h rt => ?_
  · obtain ⟨v, rs, W, rfl, _⟩ := h; rfl
  obtain ⟨v, rs, W, rfl, hd, R, FW, hP⟩ := h
  have hN : (["_law_rows_here", "_law_world_here", "_law_name_here", "_law_uses", "_law_versions", "_law_place", "_law_used", "_law_row", "_law_windows_here"] : List PySem.Str).Nodup := by decide +kernel
  have hrl : (rs.map rwD).length = rs.length := List.length_map _
  have hnl : (rs.map (·.nm)).length = rs.length := List.length_map _
  have hfew := R.few
  have hmods := FW.mods
  have rowAt : ∀ i d, (rs.map rwD)[i]? = some d → ∃ r, rs[i]? = some r ∧ d = rwD r := fun i d h => by
    rw [List.getElem?_map] at h
    cases e : rs[i]? with
    | none => rw [e] at h; cases h
    | some r => rw [e] at h; exact ⟨r, e, (Option.some.inj h).symm⟩
  refine r_setE 1 (le_E (pe_disp (pps_cons pE pE (pps_cons pE pE (pps_cons pE pE (pps_cons pE pE pps_nil)))) rfl rfl (fun z => by cases z) (by decide)) fun p hp => ?_) hN
  simp only [tPairs]
  have hMp : M p = none := fresh_back eM hp
  have e0 : Ex M (upd C p (.dK [])) := eM.trans (Ex.new hp)
  refine (j_str (N := M)).ev _ e0 _ fun C1 e1 => ?_
  refine (j_lc (N := M) (K := K) (own := [("_law_row", 7)]) (I := fun j => mR K fun d => (rs.map rwD)[j]? = some d) (fun k d => d = PyData.str ((rs.map (·.nm)).getD k ("" : PySem.Str))) (fun _ => true) 7 rfl hN (pi_list pE) (ji_list (j_var 0 (P := mD K _) hd)) (by omega) (blk_by (N := ["_law_rows_here", "_law_world_here", "_law_name_here", "_law_uses", "_law_versions", "_law_place", "_law_used", "_law_row", "_law_windows_here"]) (sc := defScope (top 57)) (by decide +kernel)) (fun s0 H0 C0 cl fp => pg_name hN rfl (Or.inl rfl)) (fun x => rfl) fun k x M2 hk eM2 hx => ⟨fun s0 H0 C0 cl fp => jts_nil, fun _ s0 H0 C0 cl fp => ?_⟩) C1 (e0.trans e1) _ fun v1 N2 C2 g2 p2 => ?_
  · obtain ⟨d, h1, h2⟩ := hx
    obtain ⟨r, hr1, rfl⟩ := rowAt k d h1
    have e : (rs.map (·.nm)).getD k ("" : PySem.Str) = r.nm := by rw [List.getD_eq_getElem?_getD, List.getElem?_map, hr1] <;> rfl
    rw [e]
    refine J.imp (P := mIs (.str r.nm)) (J.str (j_ixT (j_var 7 (P := mD K (.tuple [.str r.nm, .tuple (strsD r.us), .list (r.vs.map winsD)])) h2) j_int rfl)) fun y M3 g p => ⟨_, rfl, ?_⟩
    have p' : y = V.str r.nm := p
    subst p'
    exact .str _
  obtain ⟨mo, xs, ds, rfl, hMmo, hmo, hdx, hds⟩ := p2
  have hxs : xs = W.mods.map V.str := by
    have h1 := F2.map hds
    rw [hrl, ← hnl, range_getD (rs.map (·.nm)) PyData.str ""] at h1
    rw [h1] at hdx
    rw [hmods]
    exact dps_strs_inv hdx
  subst hxs
  refine (j_str (N := N2)).ev _ g2.sub _ fun C3 e3 => ?_
  refine (j_newD (N := N2)) C3 (g2.sub.trans e3) _ fun v2 N3 C4 g3 p3 => ?_
  obtain ⟨us, rfl, hus0, hus⟩ := p3
  refine (j_str (N := N3)).ev _ g3.sub _ fun C5 e5 => ?_
  refine (j_newDT (N := N3)) C5 (g3.sub.trans e5) _ fun v3 N4 C6 g4 p4 => ?_
  obtain ⟨wi, rfl, hwi0, hwi⟩ := p4
  refine (j_str (N := N4)).ev _ g4.sub _ fun C7 e7 => ?_
  refine (j_newD (N := N4)) C7 (g4.sub.trans e7) _ fun v4 N5 C8 g5 p5 => ?_
  obtain ⟨th, rfl, hth0, hth⟩ := p5
  have gB : Gr M (upd C p (.dK [])) N5 C8 := ((((Gr.of_ex e0 e1).trans g2).trans ((Gr.of_ex g2.sub e3).trans g3)).trans ((Gr.of_ex g3.sub e5).trans g4)).trans ((Gr.of_ex g4.sub e7).trans g5)
  have g15 : Ex C1 C3 := g2.ext.trans e3
  have x3 : Ex C C3 := (Ex.new hp).trans (e1.trans g15)
  have x5 : Ex C C5 := x3.trans (g3.ext.trans e5)
  have x7 : Ex C C7 := x5.trans (g4.ext.trans e7)
  have gA : Gr M C N5 C8 := (Gr.of_ex eM (Ex.new hp)).trans gB
  have hN5p : N5 p = none := gB.outO hMp upd_same fun _ z => by cases z
  have hC8p : C8 p = some (.dK []) := gB.ext _ _ upd_same
  have u5 : N5 us = some (.dK []) := (g4.up.trans g5.up) _ _ hus
  have w5 : N5 wi = some (.dT []) := g5.up _ _ hwi
  have m5 : N5 mo = some (.lst (W.mods.map V.str)) := (g3.up.trans (g4.up.trans g5.up)) _ _ hmo
  have hMus : M us = none := fresh_back (g2.up) hus0
  have hMwi : M wi = none := fresh_back (g2.up.trans g3.up) hwi0
  have hMth : M th = none := fresh_back (g2.up.trans (g3.up.trans g4.up)) hth0
  have fr : WFr C us wi th := ⟨fresh_back x3 (dom_new g3 hus hus0 fun _ z => by cases z), fresh_back x5 (dom_new g4 hwi hwi0 fun _ z => by cases z), fresh_back x7 (dom_new g5 hth hth0 fun _ z => by cases z), fun z => by have h1 := g4.up _ _ hus; rw [z, hth0] at h1; cases h1⟩
  have hCmo : C mo = none := fresh_back ((Ex.new hp).trans e1) (dom_new g2 hmo hMmo fun _ z => by cases z)
  have p1 : ∀ {b : Addr} {o : HO}, N5 b = some o → b ≠ p := fun h => ne_of_none h hN5p
  refine ⟨hC8p, wldF ⟨p, mo, us, wi, th, fun _ => 0, fun _ _ => 0, fun _ => 0⟩, rfl, (by show 4 ≤ 15; decide), ?_⟩
  rw [wld_merge]
  have hpC9 : (upd C8 p (.dK (wldF ⟨p, mo, us, wi, th, fun _ => 0, fun _ _ => 0, fun _ => 0⟩))) p = some (.dK (wldF ⟨p, mo, us, wi, th, fun _ => 0, fun _ _ => 0, fun _ => 0⟩)) := upd_same
  have u9 : (upd C8 p (.dK (wldF ⟨p, mo, us, wi, th, fun _ => 0, fun _ _ => 0, fun _ => 0⟩))) us = some (.dK []) := by rw [upd_ne (p1 u5)]; exact gA.sub _ _ u5
  have w9 : (upd C8 p (.dK (wldF ⟨p, mo, us, wi, th, fun _ => 0, fun _ _ => 0, fun _ => 0⟩))) wi = some (.dT []) := by rw [upd_ne (p1 w5)]; exact gA.sub _ _ w5
  have t9 : (upd C8 p (.dK (wldF ⟨p, mo, us, wi, th, fun _ => 0, fun _ _ => 0, fun _ => 0⟩))) th = some (.dK []) := by rw [upd_ne (p1 hth)]; exact gA.sub _ _ hth
  have gL : Gr M C (L2.del (L2.del (L2.del N5 us) wi) th) C8 := ((gA.del hMus).del hMwi).del hMth
  have hLp : (L2.del (L2.del (L2.del N5 us) wi) th) p = none := del_nn (del_nn (del_nn hN5p))
  have g9 : Gr M C (upd (L2.del (L2.del (L2.del N5 us) wi) th) p (.dK (wldF ⟨p, mo, us, wi, th, fun _ => 0, fun _ _ => 0, fun _ => 0⟩))) (upd C8 p (.dK (wldF ⟨p, mo, us, wi, th, fun _ => 0, fun _ _ => 0, fun _ => 0⟩))) := (gL.mut hp hLp).take upd_same hp hMp
  have m0u : (upd (L2.del (L2.del (L2.del N5 us) wi) th) p (.dK (wldF ⟨p, mo, us, wi, th, fun _ => 0, fun _ _ => 0, fun _ => 0⟩))) us = none := by rw [upd_ne (p1 u5)]; exact del_nn (del_nn del_same)
  have m0w : (upd (L2.del (L2.del (L2.del N5 us) wi) th) p (.dK (wldF ⟨p, mo, us, wi, th, fun _ => 0, fun _ _ => 0, fun _ => 0⟩))) wi = none := by rw [upd_ne (p1 w5)]; exact del_nn del_same
  have m0t : (upd (L2.del (L2.del (L2.del N5 us) wi) th) p (.dK (wldF ⟨p, mo, us, wi, th, fun _ => 0, fun _ _ => 0, fun _ => 0⟩))) th = none := by rw [upd_ne (p1 hth)]; exact del_same
  have m0p : (upd (L2.del (L2.del (L2.del N5 us) wi) th) p (.dK (wldF ⟨p, mo, us, wi, th, fun _ => 0, fun _ _ => 0, fun _ => 0⟩))) p = some (.dK (wldF ⟨p, mo, us, wi, th, fun _ => 0, fun _ _ => 0, fun _ => 0⟩)) := upd_same
  have m0m : (upd (L2.del (L2.del (L2.del N5 us) wi) th) p (.dK (wldF ⟨p, mo, us, wi, th, fun _ => 0, fun _ _ => 0, fun _ => 0⟩))) mo = some (.lst (W.mods.map V.str)) := by
    rw [upd_ne (p1 m5), del_ne (ne_ob m5 hth fun z => by cases z), del_ne (ne_ob m5 w5 fun z => by cases z), del_ne (ne_ob m5 u5 fun z => by cases z)]
    exact m5
  generalize upd (L2.del (L2.del (L2.del N5 us) wi) th) p (.dK (wldF ⟨p, mo, us, wi, th, fun _ => 0, fun _ _ => 0, fun _ => 0⟩)) = M0 at g9 m0u m0w m0t m0p m0m
  generalize upd C8 p (.dK (wldF ⟨p, mo, us, wi, th, fun _ => 0, fun _ _ => 0, fun _ => 0⟩)) = C9 at g9 hpC9 u9 w9 t9
  have S0 : WSt K M C W us wi th mo M0 C9 (fun _ => mo) [.m] [] [] [] := ⟨g9, m0u, m0w, m0t, u9, t9, w9, ⟨fun m hm => (by simp at hm), fun m hm => (by simp at hm), fun m n hm => (by simp at hm)⟩, ⟨fun x hx => by
    have hx' : x = .m := by simpa using hx
    subst hx'
    exact ⟨hCmo, m0m⟩, fun x hx y hy hne => by
    have hx' : x = .m := by simpa using hx
    have hy' : y = .m := by simpa using hy
    exact absurd (hx'.trans hy'.symm) hne⟩, List.mem_singleton.mpr rfl, rfl⟩
  have hd9 := dp_mono g9.up hd
  refine r_for (N := M0) (n := (rs.map rwD).length) (pi_list pE) (ji_list (j_var 0 (P := mD K _) hd9)) g9.sub (pg_tup rfl (pgs_cons (pg_name (i := 2) hN rfl (Or.inl rfl)) (pgs_cons (pg_name (i := 3) hN rfl (Or.inl rfl)) (pgs_cons (pg_name (i := 4) hN rfl (Or.inl rfl)) pgs_nil)))) PassesOwn.never rfl
    (fun Nx i σ Cx => ∃ (Mi : Hp) (adr : WK → Addr) (done : List WK) (kU kT : List (Key × V)) (kW : List (List Key × V)) (o2 o3 o4 o5 o6 : Option V), WSt K M C W us wi th mo Mi Cx adr done kU kT kW ∧ Ex Nx Mi ∧ Ex M0 Mi ∧ kU.length ≤ i ∧ kT.length ≤ i ∧ kW.length ≤ 3 * i ∧ (∀ p' r, p' < i → rs[p']? = some r → rowIn r done) ∧ σ = [some v, some (.ref p), o2, o3, o4, o5, o6, none, none])
    (fun Nx Cx g => ⟨Nx, fun _ => mo, [.m], [], [], [], none, none, none, none, none, S0.ext g, Ex.refl _, g.up, Nat.zero_le _, Nat.zero_le _, Nat.zero_le _, fun p' r hp' => (by omega), rfl⟩) (fun Nx i σ Cx ⟨Mi, _, _, _, _, _, _, _, _, _, _, S, h, _⟩ => h.trans S.gr.sub) (fun Nx i x σ Cx M4 C4 ex hi hPx gM hx => ?_) fun Nx σ Cx ex hPx => ?_
  · obtain ⟨Mi, adr, done, kU, kT, kW, o2, o3, o4, o5, o6, S, eNi, e0i, lU, lT, lW, hdone, rfl⟩ := hPx
    obtain ⟨gm2, em2⟩ := gM.more eNi S.gr.sub
    obtain ⟨d, h1, h2⟩ := hx
    obtain ⟨r, hr1, rfl⟩ := rowAt i d h1
    obtain ⟨Tb, u, l, rfl, hT, hu, hl⟩ := dp_row h2
    have hrm : r ∈ rs := List.mem_of_getElem? hr1
    have O := R.ok r hrm
    have hvf := O.few
    have hi3 : i < 3 := by omega
    have hmm : r.nm ∈ W.mods := by rw [hmods]; exact List.mem_map.mpr ⟨r, hrm, rfl⟩
    have husm : (r.nm, r.us) ∈ W.us := by rw [FW.us]; exact List.mem_map.mpr ⟨r, hrm, rfl⟩
    have huf : r.us.length ≤ 3 := R.usOk.len (u := (r.nm, r.us)) (by rw [← FW.us]; exact husm)
    have S4 := S.ext gm2
    have hsl : (strsD r.us).length = r.us.length := List.length_map _
    have hvl : (r.vs.map winsD).length = r.vs.length := List.length_map _
    have e04 : Ex M0 (un Mi M4) := e0i.trans gm2.up
    refine gp3 (ex_t (em2.trans gm2.sub) hT) ?_
    refine r_dputP (k := .inr r.nm) (N := un Mi M4) (P := mNL (un Mi M4) K (· = strsD r.us)) (hu_of hr) (j_listD (j_var 3 (P := mD K (.tuple (strsD r.us))) (dp_mono em2 hu)) (fun v M' g p => by
      obtain ⟨a, xs, rfl, s, al⟩ := dp_tup p
      exact ⟨a, xs, rfl, .inr s, al⟩) B.list) (j_dget (hu_of hr) (jv 1) j_str (by rw [← (wldG ⟨p, mo, us, wi, th, fun _ => 0, fun _ _ => 0, fun _ => 0⟩).2.1]; exact DGet.k (k := .inr "uses") (e04 _ _ m0p))) (jv 2) S4.gr.sub S4.nu S4.hU (by omega) fun v6 N6 C6 g6 hN6 p6 => ?_
    obtain ⟨q1, ys, ds, rfl, hq1, hq1', hdy, rfl⟩ := p6
    have hys := dps_strs_inv hdy
    subst hys
    have S6 := S4.putU fr g6 hq1 hq1' (m := r.nm) ⟨r.us, husm, hq1'⟩
    have e06 : Ex M0 N6 := e04.trans g6.up
    have lU6 := length_putK kU (.inr r.nm) (V.ref q1)
    generalize upd C6 us (.dK (putK kU (.inr r.nm) (.ref q1))) = C6' at S6
    have hl6 : Dp K N6 l (.list (r.vs.map winsD)) := dp_mono (em2.trans g6.up) hl
    refine r_dputP (k := .inr r.nm) (N := N6) (P := mNew N6 (.lst ((List.range r.vs.length).map fun i : Nat => V.int (i : Int)))) (hu_of hr) (j_listRg rfl ((j_lenL (j_var 4 (P := mD K _) hl6) B.len).is (by rw [hvl])) (by omega) B.list B.range) (j_dget (hu_of hr) (jv 1) j_str (by rw [← (wldG ⟨p, mo, us, wi, th, fun _ => 0, fun _ _ => 0, fun _ => 0⟩).2.2.2]; exact DGet.k (k := .inr "there") (e06 _ _ m0p))) (jv 2) S6.gr.sub S6.nt S6.hT (by omega) fun v7 N7 C7 g7 hN7 p7 => ?_
    obtain ⟨q2, rfl, hq2, hq2'⟩ := p7
    have S7 := S6.putT fr g7 hq2 hq2' (m := r.nm) (by show N7 q2 = some (.lst ((W.there r.nm).map V.int)); rw [FW.there hrm]; exact hq2')
    have e07 : Ex M0 N7 := e06.trans g7.up
    have lT7 := length_putK kT (.inr r.nm) (V.ref q2)
    generalize upd C7 th (.dK (putK kT (.inr r.nm) (.ref q2))) = C7' at S7
    have eN7 : Ex Nx N7 := eNi.trans (gm2.up.trans (g6.up.trans g7.up))
    have hu7 : Dp K N7 u (.tuple (strsD r.us)) := dp_mono (em2.trans (g6.up.trans g7.up)) hu
    have hl7 := dp_mono g7.up hl6
    refine r_for (N := N7) (n := (strsD r.us).length) (pi_enT rfl B.enum pA) (ji_enT (K := K) (ja_cons (j_var 3 (P := mD K _) hu7) ja_nil)) S7.gr.sub (pg_tup rfl (pgs_cons (pg_name (i := 5) hN rfl (Or.inr rfl)) (pgs_cons (pg_name (i := 6) hN rfl (Or.inl rfl)) pgs_nil))) PassesOwn.never rfl
      (fun Ny j σ Cy => ∃ (Mj : Hp) (adr2 : WK → Addr) (done2 : List WK) (kW2 : List (List Key × V)) (o5 o6 : Option V), WSt K M C W us wi th mo Mj Cy adr2 done2 (putK kU (.inr r.nm) (.ref q1)) (putK kT (.inr r.nm) (.ref q2)) kW2 ∧ Ex Ny Mj ∧ Ex N7 Mj ∧ kW2.length ≤ 3 * i + j ∧ (∀ x ∈ (done ++ [.u r.nm]) ++ [.t r.nm], x ∈ done2) ∧ (∀ n ∈ r.us.take j, WK.w r.nm n ∈ done2) ∧ σ = [some v, some (.ref p), some (.str r.nm), some u, some l, o5, o6, none, none])
      (fun Ny Cy g => ⟨Ny, _, _, kW, o5, o6, S7.ext g, Ex.refl _, g.up, lW, fun x hx => hx, fun n hn => (by rw [List.take_zero] at hn; cases hn), rfl⟩) (fun Ny j σ Cy ⟨Mj, _, _, _, _, _, S, h, _⟩ => h.trans S.gr.sub) (fun Ny j x σ Cy M10 C10 ey hj hPy gN hx => ?_) fun Ny σ Cy ey hPy => ?_
    · obtain ⟨Mj, adr2, done2, kW2, o5, o6, Sj, eNj, e7j, lW2, hin, hws, rfl⟩ := hPy
      obtain ⟨gm10, em10⟩ := gN.more eNj Sj.gr.sub
      obtain ⟨T2, y, d, rfl, hd2, hy, hT2⟩ := hx
      have hj' : j < r.us.length := by omega
      unfold strsD at hd2
      rw [List.getElem?_map, List.getElem?_eq_getElem hj'] at hd2
      have hd2' : PyData.str r.us[j] = d := Option.some.inj hd2
      subst hd2'
      obtain rfl := dp_str hy
      have S10 := Sj.ext gm10
      have e710 : Ex N7 (un Mj M10) := e7j.trans gm10.up
      have hl10 := dp_mono e710 hl7
      have hwin := (FW.at_ r hrm).2 j r.us[j] (List.getElem?_eq_getElem hj')
      refine gp2 (SqT.of (gm10.sub _ _ (em10 _ _ hT2))) ?_
      refine r_dput2P (k1 := .inr r.nm) (k2 := .inr r.us[j]) (N := un Mj M10) (P := mNL (un Mj M10) K (F2 (fun k d => d = wD ((r.vs.getD k []).getD j (0, none))) ((List.range (r.vs.map winsD).length).filter fun _ => true))) (hu_of hr) ?_ (j_dget (hu_of hr) (jv 1) j_str (by rw [← (wldG ⟨p, mo, us, wi, th, fun _ => 0, fun _ _ => 0, fun _ => 0⟩).2.2.1]; exact DGet.k (k := .inr "windows") ((e07.trans e710) _ _ m0p))) (jv 2) (jv 6) S10.gr.sub S10.nw S10.hW (by omega) fun v11 N11 C11 g11 hN11 p11 => ?_
      · refine j_lc (K := K) (own := [("_law_windows_here", 8)]) (I := fun j => mR K fun d => (r.vs.map winsD)[j]? = some d) (fun k d => d = wD ((r.vs.getD k []).getD j (0, none))) (fun _ => true) 8 rfl hN (pi_list pE) (ji_list (j_var 4 (P := mD K _) hl10)) (by omega) (blk_by (N := ["_law_rows_here", "_law_world_here", "_law_name_here", "_law_uses", "_law_versions", "_law_place", "_law_used", "_law_row", "_law_windows_here"]) (sc := defScope (top 57)) (by decide +kernel)) (fun s0 H0 C0 cl fp => pg_name hN rfl (Or.inl rfl)) (fun x => rfl) fun k x M2 hk eM2 hx => ⟨fun s0 H0 C0 cl fp => jts_nil, fun _ s0 H0 C0 cl fp => ?_⟩
        obtain ⟨d, h1, h2⟩ := hx
        have hk' : k < r.vs.length := by omega
        rw [List.getElem?_map, List.getElem?_eq_getElem hk'] at h1
        have h1' : winsD r.vs[k] = d := Option.some.inj h1
        subst h1'
        have e : r.vs.getD k [] = r.vs[k] := by rw [List.getD_eq_getElem?_getD, List.getElem?_eq_getElem hk'] <;> rfl
        have hw := O.wide r.vs[k] (List.getElem_mem hk')
        have hjv : j < (r.vs[k]).length := by omega
        have e2 : (r.vs[k]).getD j (0, none) = (r.vs[k])[j] := by rw [List.getD_eq_getElem?_getD, List.getElem?_eq_getElem hjv] <;> rfl
        rw [e, e2]
        refine J.imp (P := mD K (wD ((r.vs[k])[j]))) (j_ixL (ds := (r.vs[k]).map wD) (j_var 8 (P := mD K (winsD r.vs[k])) h2) (jv 5) (atI_nat (by rw [List.getElem?_map, List.getElem?_eq_getElem hjv]; rfl))) fun y M3 g p => ⟨_, rfl, p⟩
      · obtain ⟨q3, zs, ds, rfl, hq3, hq3', hdz, hds⟩ := p11
        have hwd : ds = (W.win r.nm r.us[j]).map wD := by
          rw [F2.map hds, hvl, range_getD r.vs (fun q => wD (q.getD j (0, none))) [], hwin, List.map_map]
          rfl
        rw [hwd] at hdz
        have S11 := S10.putW fr g11 hq3 hq3' (m := r.nm) (n := r.us[j]) ⟨zs, hq3', hdz⟩
        have lW3 := length_putK kW2 [.inr r.nm, .inr r.us[j]] (V.ref q3)
        have hT1 : r.us.take (j + 1) = r.us.take j ++ [r.us[j]] := by rw [List.take_succ, List.getElem?_eq_getElem hj']; rfl
        refine r_nil ⟨N11, _, _, _, _, _, S11, eNj.trans (gm10.up.trans g11.up), e710.trans g11.up, by omega, fun x hx => List.mem_append_left _ (hin x hx), fun n hn => ?_, rfl⟩
        rw [hT1] at hn
        rcases List.mem_append.mp hn with hn | hn
        · exact List.mem_append_left _ (hws n hn)
        · have hn' : n = r.us[j] := by simpa using hn
          rw [hn']
          exact List.mem_append_right _ (List.mem_singleton.mpr rfl)
    · obtain ⟨Mj, adr2, done2, kW2, o5, o6, Sj, eNj, e7j, lW2, hin, hws, rfl⟩ := hPy
      refine r_nil ⟨Mj, adr2, done2, _, _, kW2, _, _, _, o5, o6, Sj, eN7.trans e7j, e07.trans e7j, by omega, by omega, by omega, fun p' r' hp' hr' => ?_, rfl⟩
      by_cases z : p' = i
      · subst z
        rw [hr1] at hr'
        cases hr'
        refine ⟨hin _ (List.mem_append_left _ (List.mem_append_right _ (List.mem_singleton.mpr rfl))), hin _ (List.mem_append_right _ (List.mem_singleton.mpr rfl)), fun n hn => hws n ?_⟩
        rw [hsl, List.take_length]; exact hn
      · obtain ⟨a1, a2, a3⟩ := hdone p' r' (by omega) hr'
        exact ⟨hin _ (List.mem_append_left _ (List.mem_append_left _ a1)), hin _ (List.mem_append_left _ (List.mem_append_left _ a2)), fun n hn => hin _ (List.mem_append_left _ (List.mem_append_left _ (a3 n hn)))⟩
  · obtain ⟨Mi, adr, done, kU, kT, kW, o2, o3, o4, o5, o6, S, eNi, e0i, lU, lT, lW, hdone, rfl⟩ := hPx
    refine r_ret (N := noHp) (jv 1) no_ex fun v7 N7 C7 g7 p7 => ?_
    have p7' : v7 = V.ref p := p7
    subst p7'
    have hin : ∀ r ∈ rs, rowIn r done := fun r hr => by
      obtain ⟨i, hi⟩ := List.getElem?_of_mem hr
      exact hdone i r (by have := (List.getElem?_eq_some_iff.mp hi).1; omega) hi
    have inM : ∀ m ∈ W.mods, WK.u m ∈ done ∧ WK.t m ∈ done := fun m hm => by
      rw [hmods] at hm
      obtain ⟨r, hr, rfl⟩ := List.mem_map.mp hm
      exact ⟨(hin r hr).1, (hin r hr).2.1⟩
    have inW : ∀ m ns n, (m, ns) ∈ W.us → n ∈ ns → WK.w m n ∈ done := fun m ns n h1 h2 => by
      rw [FW.us] at h1
      obtain ⟨r, hr, e⟩ := List.mem_map.mp h1
      cases e
      exact (hin r hr).2.2 n h2
    have all : ∀ x, WkIn W x → x ∈ done := fun x hx => by
      cases x with
      | m => exact S.m1
      | u m => exact (inM m hx).1
      | t m => exact (inM m hx).2
      | w m n => obtain ⟨ns, h1, h2⟩ := hx; exact inW m ns n h1 h2
    have eC : Ex Mi C7 := S.gr.sub.trans g7.ext
    have sa : ∀ x, wkA (⟨p, mo, us, wi, th, fun m => adr (.u m), fun m n => adr (.w m n), fun m => adr (.t m)⟩ : WldA) x = adr x := fun x => by
      cases x with
      | m => exact S.m2.symm
      | u m => rfl
      | t m => rfl
      | w m n => rfl
    have hw : WldAt K C7 ⟨p, mo, us, wi, th, fun m => adr (.u m), fun m n => adr (.w m n), fun m => adr (.t m)⟩ W := by
      refine ⟨eC _ _ (e0i _ _ m0p), ?_, ⟨kU, g7.ext _ _ S.hU, by omega, fun m hm => S.dic.u m (inM m hm).1⟩, fun m ns hm => ?_, ⟨kW, g7.ext _ _ S.hW, by omega, fun m ns n h1 h2 => S.dic.w m n (inW m ns n h1 h2)⟩, fun m ns n h1 h2 => ?_, ⟨kT, g7.ext _ _ S.hT, by omega, fun m hm => S.dic.t m (inM m hm).2⟩, fun m hm => ?_⟩
      · have h := (S.bld.at_ _ S.m1).2
        rw [S.m2] at h
        exact eC _ _ h
      · obtain ⟨ns', h1, h2⟩ := (S.bld.at_ _ (inM m (us_mem hm)).1).2
        have e : ns' = ns := by rw [← FW.ok.usesOf h1, ← FW.ok.usesOf hm]
        rw [e] at h2
        exact eC _ _ h2
      · exact ((S.bld.at_ _ (inW m ns n h1 h2)).2.mono eC : WkAt K C7 W _ (.w m n))
      · exact eC _ _ (S.bld.at_ _ (inM m hm).2).2
    refine rt _ (Gs.rst (WldDom ⟨p, mo, us, wi, th, fun m => adr (.u m), fun m n => adr (.w m n), fun m => adr (.t m)⟩ W) C7) C7 ⟨S.gr.ext.trans g7.ext, rst_ex, fun b o h => ?_⟩ (hP _ _ hw.rst ⟨?_, fr.ut.symm, fun x y hx hy hne => ?_⟩)
    · rcases rst_of h with h | h
      · refine .inl ?_
        cases h with
        | w => exact hp
        | us => exact fr.cu
        | wi => exact fr.cw
        | th => exact fr.ct
        | @l x hx => rw [sa]; exact (S.bld.at_ x (all x hx)).1
      · exact .inr h
    · show th ≠ p
      exact p1 hth
    · rw [sa, sa]
      exact S.bld.inj x (all x hx) y (all y hy) hne
end
end Gs

set_option Elab.async false
set_option linter.all false
set_option maxRecDepth 100000
set_option maxHeartbeats 4000000
/-! GsTw: a catalog and its record, side by side. -/
namespace Gs
open PySem PySem.Spec PyProof.Rows L2 Evl
theorem Mu.post {N C N' C' C2 : Hp} (m : Mu N C N' C') (e : Ex C' C2) : Mu N C N' C2 := ⟨m.sub.trans e, fun b o h1 h2 => e _ _ (m.frame b o h1 h2), fun b o t h => e _ _ (m.keep b o t h), m.dom⟩
theorem WkIn.of_us {W W2 : Wr} (e : W2.us = W.us) : ∀ {x : WK}, WkIn W2 x → WkIn W x
  | .m, _ => trivial
  | .u m, h => by unfold WkIn Wr.mods at *; rw [← e]; exact h
  | .t m, h => by unfold WkIn Wr.mods at *; rw [← e]; exact h
  | .w m n, h => by unfold WkIn at *; rw [← e]; exact h
theorem WldDs.of_us {b : WldA} {W W2 : Wr} (h : WldDs b W) (e : W2.us = W.us) : WldDs b W2 := ⟨h.tw, h.tu, fun x y hx hy => h.dj x y (WkIn.of_us e hx) (WkIn.of_us e hy)⟩
theorem WldDom.of_us {b : WldA} {W W2 : Wr} (e : W2.us = W.us) {x : Addr} (h : WldDom b W2 x) : WldDom b W x := by
  cases h with
  | w => exact .w
  | us => exact .us
  | wi => exact .wi
  | th => exact .th
  | l h => exact .l (WkIn.of_us e h)
/-- the record's part after a change of it -/
theorem mu_wld {K : PySem.W.Frag} {b : WldA} {W W2 : Wr} {Nw C C' : Hp} (h : WldAt K Nw b W) (e : W2.us = W.us) (frame : ∀ x o, Nw x = none → C x = some o → C' x = some o) (keep : ∀ x o, isT o → C x = some o → C' x = some o) : Mu Nw C (rst (WldDom b W2) C') C' := ⟨rst_ex, frame, keep, fun x o hx => by
  rcases rst_of hx with hx | hx
  · exact .inl (h.dom (WldDom.of_us e hx))
  · exact .inr (.inr hx)⟩
section
variable {K : PySem.W.Frag} {b : WldA} {W W2 : Wr} {C C' : Hp} {m n : PySem.Str}
/-- the list of available versions of one module was changed -/
theorem WldAt.chgT (h : WldAt K C b W) (ds : WldDs b W) (hm : m ∈ W.mods) (fr : ∀ x o, x ≠ b.tl m → C x = some o → C' x = some o) (hl : C' (b.tl m) = some (.lst ((W2.there m).map V.int))) (e1 : W2.us = W.us) (e2 : W2.win = W.win) (e3 : ∀ n, n ≠ m → W2.there n = W.there n) : WldAt K C' b W2 := by
  have h0 := h.tl m hm
  have f1 : ∀ {x : Addr} {o : HO}, C x = some o → (∀ xs, o ≠ .lst xs) → C' x = some o := fun {x o} hx h2 => fr x o (ne_ob hx h0 (h2 _)) hx
  have ft : ∀ x o, isT o → C x = some o → C' x = some o := fun x o t hx => f1 hx fun xs z => isT_lst (z ▸ t)
  have em : W2.mods = W.mods := by unfold Wr.mods; rw [e1]
  have dj : ∀ x : WK, WkIn W x → x ≠ .t m → wkA b x ≠ b.tl m := fun x hx hne => ds.dj x (.t m) hx hm hne
  refine ⟨f1 h.dd (fun _ z => by cases z), by rw [em]; exact fr _ _ (dj .m trivial fun z => by cases z) h.mo, ?_, fun m' ns hm' => ?_, ?_, fun m' ns n h1 h2 => ?_, ?_, fun m' hm' => ?_⟩
  · obtain ⟨k, h1, h2, h3⟩ := h.us
    exact ⟨k, f1 h1 (fun _ z => by cases z), h2, by rw [em]; exact h3⟩
  · rw [e1] at hm'
    exact fr _ _ (dj (.u m') (us_mem hm') fun z => by cases z) (h.ul m' ns hm')
  · obtain ⟨k, h1, h2, h3⟩ := h.wi
    exact ⟨k, f1 h1 (fun _ z => by cases z), h2, by rw [e1]; exact h3⟩
  · rw [e1] at h1
    obtain ⟨ws, h3, h4⟩ := h.wl m' ns n h1 h2
    rw [e2]
    refine ⟨ws, fr _ _ (dj (.w m' n) ⟨ns, h1, h2⟩ fun z => by cases z) h3, dps_tups ft (noLs_all fun d hd => ?_) h4⟩
    obtain ⟨q, _, rfl⟩ := List.mem_map.mp hd
    exact noL_wD q
  · obtain ⟨k, h1, h2, h3⟩ := h.th
    exact ⟨k, f1 h1 (fun _ z => by cases z), h2, by rw [em]; exact h3⟩
  · rw [em] at hm'
    by_cases z : m' = m
    · subst z; exact hl
    · rw [e3 m' z]
      exact fr _ _ (dj (.t m') hm' fun e => z (by injection e)) (h.tl m' hm')
/-- a column of windows was changed -/
theorem WldAt.chgW (h : WldAt K C b W) (ds : WldDs b W) {ns : List PySem.Str} (hm : (m, ns) ∈ W.us) (hn : n ∈ ns) (fr : ∀ x o, x ≠ b.wl m n → C x = some o → C' x = some o) {xs ys : List V} (h0 : C (b.wl m n) = some (.lst xs)) (hl : C' (b.wl m n) = some (.lst ys)) (hd : DpAll K C' ys ((W2.win m n).map wD)) (e1 : W2.us = W.us) (e2 : ∀ u x, (u, x) ≠ (m, n) → W2.win u x = W.win u x) (e3 : ∀ n, W2.there n = W.there n) : WldAt K C' b W2 := by
  have f1 : ∀ {x : Addr} {o : HO}, C x = some o → (∀ xs, o ≠ .lst xs) → C' x = some o := fun {x o} hx h2 => fr x o (ne_ob hx h0 (h2 _)) hx
  have ft : ∀ x o, isT o → C x = some o → C' x = some o := fun x o t hx => f1 hx fun xs z => isT_lst (z ▸ t)
  have em : W2.mods = W.mods := by unfold Wr.mods; rw [e1]
  have dj : ∀ x : WK, WkIn W x → x ≠ .w m n → wkA b x ≠ b.wl m n := fun x hx hne => ds.dj x (.w m n) hx ⟨ns, hm, hn⟩ hne
  refine ⟨f1 h.dd (fun _ z => by cases z), by rw [em]; exact fr _ _ (dj .m trivial fun z => by cases z) h.mo, ?_, fun m' ns' hm' => ?_, ?_, fun m' ns' n' h1 h2 => ?_, ?_, fun m' hm' => ?_⟩
  · obtain ⟨k, h1, h2, h3⟩ := h.us
    exact ⟨k, f1 h1 (fun _ z => by cases z), h2, by rw [em]; exact h3⟩
  · rw [e1] at hm'
    exact fr _ _ (dj (.u m') (us_mem hm') fun z => by cases z) (h.ul m' ns' hm')
  · obtain ⟨k, h1, h2, h3⟩ := h.wi
    exact ⟨k, f1 h1 (fun _ z => by cases z), h2, by rw [e1]; exact h3⟩
  · rw [e1] at h1
    by_cases z : (m', n') = (m, n)
    · cases z; exact ⟨ys, hl, hd⟩
    · obtain ⟨ws, h3, h4⟩ := h.wl m' ns' n' h1 h2
      rw [e2 m' n' z]
      refine ⟨ws, fr _ _ (dj (.w m' n') ⟨ns', h1, h2⟩ fun e => z (by injection e with a b; rw [a, b])) h3, dps_tups ft (noLs_all fun d hd => ?_) h4⟩
      obtain ⟨q, _, rfl⟩ := List.mem_map.mp hd
      exact noL_wD q
  · obtain ⟨k, h1, h2, h3⟩ := h.th
    exact ⟨k, f1 h1 (fun _ z => by cases z), h2, by rw [em]; exact h3⟩
  · rw [em] at hm'
    rw [e3 m']
    exact fr _ _ (dj (.t m') hm' fun e => by cases e) (h.tl m' hm')
/-- the same state in other words -/
theorem WldAt.congr (h : WldAt K C b W) (e1 : W2.us = W.us) (e2 : W2.win = W.win) (e3 : ∀ n, W2.there n = W.there n) : WldAt K C b W2 := by
  have em : W2.mods = W.mods := by unfold Wr.mods; rw [e1]
  refine ⟨h.dd, by rw [em]; exact h.mo, by rw [em]; exact h.us, by rw [e1]; exact h.ul, by rw [e1]; exact h.wi, by rw [e1, e2]; exact h.wl, by rw [em]; exact h.th, fun m hm => ?_⟩
  rw [em] at hm
  rw [e3]; exact h.tl m hm
end
/-! ### plain: what is withdrawn -/
theorem erase_filter {i : Int} : ∀ {l : List Int} {j : Nat}, l.Nodup → l[j]? = some i → l.eraseIdx j = l.filter fun x => decide (x ≠ i)
  | [], _, _, h => by cases h
  | a :: r, 0, nd, h => by
    have e : a = i := Option.some.inj h
    subst e
    rw [List.filter_cons_of_neg (by simp)]
    refine (List.filter_eq_self.mpr fun x hx => ?_).symm
    have := (List.nodup_cons.mp nd).1
    exact decide_eq_true fun z => this (z ▸ hx)
  | a :: r, j + 1, nd, h => by
    have h' : r[j]? = some i := by simpa using h
    have nd' := List.nodup_cons.mp nd
    have hne : a ≠ i := fun z => nd'.1 (z ▸ List.mem_of_getElem? h')
    have e1 : (a :: r).filter (fun x => decide (x ≠ i)) = a :: r.filter fun x => decide (x ≠ i) := List.filter_cons_of_pos (by exact decide_eq_true hne)
    rw [e1, ← erase_filter nd'.2 h']
    rfl
theorem there_wd {W : Wr} {m : PySem.Str} {i : Int} : (wdW W m i).there m = (W.there m).filter fun x => decide (x ≠ i) := by
  unfold Wr.there
  rw [List.filter_map, List.filter_filter]
  refine congrArg _ (List.filter_congr fun k _ => ?_)
  show (!decide ((k : Int) ∈ if m = m then i :: W.wd m else W.wd m)) = _
  rw [if_pos rfl]
  simp [List.mem_cons]
theorem there_wd' {W : Wr} {m n : PySem.Str} {i : Int} (h : n ≠ m) : (wdW W m i).there n = W.there n := by
  unfold Wr.there
  refine congrArg _ (List.filter_congr fun k _ => ?_)
  show (!decide ((k : Int) ∈ if n = m then i :: W.wd n else W.wd n)) = _
  rw [if_neg h]
theorem there_nodup (W : Wr) (m : PySem.Str) : (W.there m).Nodup := (there_sorted W m).imp fun h => Int.ne_of_lt h
structure Fit (W : Wr) (z : Int) (c d : Nat) : Prop where
  ok : WOk W
  sm : Sm W z
  cnt : ∀ m, W.cnt m ≤ c
  wdl : ∀ m, (W.wd m).length ≤ d
  wdi : ∀ m i, i ∈ W.wd m → i < (W.cnt m : Int)
theorem Fit.wdr {W : Wr} {z : Int} {c d : Nat} (h : Fit W z c d) {m : PySem.Str} {i : Int} (hi : i ∈ W.there m) : Fit (wdW W m i) z c (d + 1) := by
  refine ⟨⟨h.ok.nd, h.ok.few, h.ok.ns, h.ok.len, h.ok.ok, h.ok.low, h.ok.small, h.ok.cs, h.ok.nm⟩, h.sm, h.cnt, fun n => ?_, fun n j hj => ?_⟩
  · show (if n = m then i :: W.wd n else W.wd n).length ≤ d + 1
    have := h.wdl n
    split
    · rw [List.length_cons]; omega
    · omega
  · have hj' : j ∈ (if n = m then i :: W.wd n else W.wd n) := hj
    show j < (W.cnt n : Int)
    by_cases e : n = m
    · rw [if_pos e] at hj'
      rcases List.mem_cons.mp hj' with rfl | hj'
      · obtain ⟨k, hk, h1, _⟩ := there_mem.mp hi
        rw [e, hk]; omega
      · exact h.wdi n j hj'
    · rw [if_neg e] at hj'
      exact h.wdi n j hj'
theorem Fit.mono {W : Wr} {z : Int} {c d c' d' : Nat} (h : Fit W z c d) (h1 : c ≤ c') (h2 : d ≤ d') : Fit W z c' d' := ⟨h.ok, h.sm, fun m => Nat.le_trans (h.cnt m) h1, fun m => Nat.le_trans (h.wdl m) h2, h.wdi⟩
/-! ### both parts -/
structure Pair (K : PySem.W.Frag) (Cc : Addr) (a : CatA) (b : WldA) (M C : Hp) (k : Nat) (Nc Nw Cx : Hp) (Wc Ww : Wr) : Prop where
  eC : Ex Nc Cx
  eW : Ex Nw Cx
  ap : Apart Nc Nw
  mu : Mu M C (un Nc Nw) Cx
  ca : CatAt K Cc Nc a Wc
  rl : RecLe Nc a k
  hw : WldAt K Nw b Ww
section
variable {K : PySem.W.Frag} {Cc : Addr} {a : CatA} {b : WldA} {M C Nc Nw Cx Cy F : Hp} {k k' : Nat} {Wc Ww W2 : Wr}
theorem Pair.grow (p : Pair K Cc a b M C k Nc Nw Cx Wc Ww) (e : Ex Cx Cy) : Pair K Cc a b M C k Nc Nw Cy Wc Ww := ⟨p.eC.trans e, p.eW.trans e, p.ap, p.mu.post e, p.ca, p.rl, p.hw⟩
theorem Pair.mono (p : Pair K Cc a b M C k Nc Nw Cx Wc Ww) (e : k ≤ k') : Pair K Cc a b M C k' Nc Nw Cx Wc Ww := ⟨p.eC, p.eW, p.ap, p.mu, p.ca, p.rl.mono e, p.hw⟩
/-- F has nothing of them -/
structure Off (F Nc Nw Cx : Hp) : Prop where
  ex : Ex F Cx
  c : Apart Nc F
  w : Apart Nw F
theorem Off.grow (h : Off F Nc Nw Cx) (e : Ex Cx Cy) : Off F Nc Nw Cy := ⟨h.ex.trans e, h.c, h.w⟩
theorem Off.gr {F' : Hp} (h : Off F Nc Nw Cx) (p : Pair K Cc a b M C k Nc Nw Cx Wc Ww) (g : Gr F Cx F' Cy) : Off F' Nc Nw Cy := ⟨g.sub, h.c.grow p.eC g, h.w.grow p.eW g⟩
theorem Off.of {F' : Hp} (h : Off F Nc Nw Cx) (e : Ex F' F) : Off F' Nc Nw Cx := ⟨e.trans h.ex, h.c.of e, h.w.of e⟩
/-- the catalog's part is changed -/
theorem Pair.cat {N' : Hp} (p : Pair K Cc a b M C k Nc Nw Cx Wc Ww) (m : Mu Nc Cx N' Cy) (ca : CatAt K Cc N' a W2) (rl : RecLe N' a k') : Pair K Cc a b M C k' N' Nw Cy W2 Ww ∧ ∀ F, Off F Nc Nw Cx → Off F N' Nw Cy := by
  have eW := p.ap.ex m p.eW
  refine ⟨⟨m.sub, eW, p.ap.next m p.eW, p.mu.trans (m.left eW), ca, rl, p.hw⟩, fun F h => ⟨h.c.ex m h.ex, h.c.next m h.ex, h.w⟩⟩
/-- the record's part is changed -/
theorem Pair.wld {N' : Hp} (p : Pair K Cc a b M C k Nc Nw Cx Wc Ww) (m : Mu Nw Cx N' Cy) (hw : WldAt K N' b W2) : Pair K Cc a b M C k Nc N' Cy Wc W2 ∧ ∀ F, Off F Nc Nw Cx → Off F Nc N' Cy := by
  have ap' := p.ap.flip p.eC p.eW
  have eC := ap'.ex m p.eC
  refine ⟨⟨eC, m.sub, (ap'.next m p.eC).flip m.sub eC, p.mu.trans (m.right eC), p.ca, p.rl, hw⟩, fun F h => ⟨h.w.ex m h.ex, h.c, h.w.next m h.ex⟩⟩
end
/-! ### walks of a number of turns that is not told -/
def JIx (wi : TI) (σ : L2.St) (N : Hp) (nm : Nat) (I : Nat → MP) : Prop := ∀ C, Ex N C → ∀ R : It → Hp → Prop, (∀ Jt N1 C1 n, n ≤ nm → Gr N C N1 C1 → Wk Jt N1 n I → R Jt C1) → wi σ C R
theorem ji_rangeX {ta : TA} {σ : L2.St} {N : Hp} {m : Nat} (h : EvAP ta σ N (lCons (mI fun j => 0 ≤ j ∧ j ≤ m) lNil)) (hn : m ≤ 100000) : JIx (iRng1 ta) σ N m fun j => mIs (.int (j : Nat)) := fun C eC R k =>
  h C eC _ fun vs N1 C1 g p => by
    obtain ⟨v, rfl, hv⟩ := la1 p
    obtain ⟨i, rfl, h0, h1⟩ := hv
    obtain ⟨n, rfl⟩ := Int.eq_ofNat_of_zero_le h0
    refine ⟨_, rfl, by omega, by omega, k _ N1 C1 n (by omega) g ⟨fun i H h _ => ?_, fun H _ => ?_, fun i H x H' h e y => ?_⟩⟩
    · show i < ((n : Int)).toNat; omega
    · show ((n : Int)).toNat ≤ n; omega
    · have y' : H' = H ∧ x = .int (0 + (i : Nat)) := y
      obtain ⟨rfl, rfl⟩ := y'
      exact ⟨N1, Gr.refl e, by show V.int (0 + (i : Nat)) = V.int (i : Nat); rw [Int.zero_add]⟩
theorem r_forX {X : Cx} {tg iter : Expr} {body rest : List Stmt} {wi : TI} {g : TG} {pos : Pos} {σ : L2.St} {N C : Hp} {D : Ends} {nm : Nat} {I : Nat → MP} (hi : PI X tg iter wi) (hw : JIx wi σ N nm I) (eN : Ex N C) (hg : PG X tg g) (hp : PassesOwn (model X.prog X.w) X.A X.env X.xe) (hc : X.calm = true)
    (Pv : Hp → Nat → L2.St → Hp → Prop) (h0 : ∀ N1 C1, Gr N C N1 C1 → Pv N1 0 σ C1) (hx : ∀ N1 i σ2 C2, Pv N1 i σ2 C2 → Ex N1 C2)
    (hs : ∀ N1 i x σ2 C2 M C3, Ex N N1 → i < nm → Pv N1 i σ2 C2 → Gr N1 C2 M C3 → (I i).p x M → g x σ2 C3 (tR X body { D with nx := Pv N1 (i + 1), ct := Pv N1 (i + 1), bk := tR X rest D }))
    (hd : ∀ N1 n σ2 C2, Ex N N1 → n ≤ nm → Pv N1 n σ2 C2 → tR X rest D σ2 C2) (hf : ∀ x, foldedSetIterable iter X.env x = pure x := by intro _; rfl) : tR X (.For tg iter body [] pos :: rest) D σ C := by
  refine r_of (ps_for hp hc hi hg pR hf) (hw C eN _ fun Jt N1 C1 n hn gr wk => ?_)
  have W : Walk Jt n (fun H => Ex N1 H) (fun i H x H' => ∃ M, Gr N1 H M H' ∧ (I i).p x M) := ⟨fun i H h e => wk.go i H h e, fun H e => wk.stop H e, fun i H x H' h e y => wk.yld i H x H' h e y⟩
  refine for_it W (Pv N1) (h0 N1 C1 gr) (fun i σ2 H _ h => hx N1 i σ2 H h) (fun i x σ2 H H' hi2 hP y => ?_) fun σ2 H h => hd N1 n σ2 H gr.up hn h
  obtain ⟨M, gM, hpx⟩ := y
  exact hs N1 i x σ2 H M H' gr.up (Nat.lt_of_lt_of_le hi2 hn) hP gM hpx
end Gs

set_option Elab.async false
set_option linter.all false
set_option maxRecDepth 100000
set_option maxHeartbeats 4000000
/-! GsTw2: _law_withdrawn. -/
namespace Gs
open PySem PySem.Spec PyProof.Rows L2 Evl
def Two (K : PySem.W.Frag) (Cc : Addr) (a : CatA) (b : WldA) (k : Nat) (N : Hp) (W : Wr) : Prop := ∃ Nc Nw, N = un Nc Nw ∧ Ex Nw N ∧ Apart Nc Nw ∧ CatAt K Cc Nc a W ∧ RecLe Nc a k ∧ WldAt K Nw b W
section
variable {K : PySem.W.Frag} {Cc : Addr} {a : CatA} {b : WldA} {M C Nc Nw N Cx Cy F G : Hp} {k k' : Nat} {W : Wr}
theorem Pair.two (p : Pair K Cc a b M C k Nc Nw Cx W W) : Two K Cc a b k (un Nc Nw) W := ⟨Nc, Nw, rfl, un_r p.eC p.eW, p.ap, p.ca, p.rl, p.hw⟩
theorem Two.pair (h : Two K Cc a b k N W) (e : Ex N C) : ∃ Nc Nw, N = un Nc Nw ∧ Pair K Cc a b N C k Nc Nw C W W ∧ ∀ G, Ex G C → Apart N G → Off G Nc Nw C := by
  obtain ⟨Nc, Nw, rfl, h1, h2, h3, h4, h5⟩ := h
  refine ⟨Nc, Nw, rfl, ⟨un_l.trans e, h1.trans e, h2, mu_refl e, h3, h4, h5⟩, fun G eG ap => ⟨eG, fun x o hx => ?_, fun x o hx => ?_⟩⟩
  · rcases ap x o hx with h | h
    · exact .inl (un_none h).1
    · exact .inr h
  · rcases ap x o hx with h | h
    · exact .inl (un_none h).2
    · exact .inr h
theorem Two.catAt (h : Two K Cc a b k N W) : CatAt K Cc N a W ∧ WldAt K N b W := by
  obtain ⟨Nc, Nw, rfl, h1, h2, h3, h4, h5⟩ := h
  exact ⟨h3.mono un_l, h5.mono h1⟩
end
theorem apart_no {N : Hp} : Apart N noHp := fun b o h => by cases h
section
variable {P : Program} {w : World} {K : PySem.W.Frag} {mg : PySem.Str → Option Value} {base : Heap} {Cc : Addr}
def preWdn (K : PySem.W.Frag) (Cc : Addr) (vs : List V) (N G : Hp) (Pm : V → Hp → Prop) : Prop := ∃ (r : Addr) (a : CatA) (b : WldA) (W : Wr) (k c d : Nat) (z : Int), vs = [.ref r, .ref a.c, .ref b.w, .int 3] ∧ G r = some (rngO r) ∧ Two K Cc a b k N W ∧ CatDs a W ∧ WldDs b W ∧ Fit W z c d ∧ W.mods ≠ [] ∧ k ≤ 800 ∧ d ≤ 800 ∧
  ∀ v N' W', W'.us = W.us → Two K Cc a b (k + 3) N' W' → Fit W' z c (d + 3) → Pm v N'
theorem ok_withdrawn (F : DF K mg "_law_withdrawn" (top 58)) (B : Bt mg) (T : CatC K Cc) (c1 : Cl P w K mg base 1 "_law_draw" preDraw) (c2 : Cl P w K mg base 2 "_law_choice" (preChoice K)) (c3 : MtU P w K mg base 4 Cc "withdraw" (preWdr K Cc)) : ClU P w K mg base 5 "_law_withdrawn" (preWdn K Cc) := by
  refine clu_of (N := ["_law_rng_here", "_law_catalog", "_law_world_here", "_law_most", "_law_turn", "_law_name_here", "_law_version"]) (ps := ["_law_rng_here", "_law_catalog", "_law_world_here", "_law_most"]) F (by decide +kernel) (fun vs M G Pm h => ?_) (fun _ _ _ _ _ _ us hl => match us, hl with | [_, _, _, _], _ => rfl) fun f cdv A outer s C E vs M G Pm D hr eM eG ap h rt nx => ?_
  · obtain ⟨r, a, b, W, k, c, d, z, rfl, _⟩ := h; rfl
  obtain ⟨r, a, b, W, k, c, d, z, rfl, hGr, two, dsc, dsw, fit, hne, hk, hd, hP⟩ := h
  have hN : (["_law_rng_here", "_law_catalog", "_law_world_here", "_law_most", "_law_turn", "_law_name_here", "_law_version"] : List PySem.Str).Nodup := by decide
  obtain ⟨Nc0, Nw0, hM, P0, hoff⟩ := two.pair eM
  have hCr : C r = some (rngO r) := eG _ _ hGr
  have O0 : Off (sing r (rngO r)) Nc0 Nw0 C := (hoff G eG ap).of (sing_ex hGr)
  refine r_forX (N := sing r (rngO r)) (nm := 3) (pi_range1 rfl B.range pA) (ji_rangeX (ja_cons (J.imp (P := mI fun j => 0 ≤ j ∧ j < 3 + 1) (j_draw c1 hr (jv 0) (j_add (jv 3) j_int) sing_same (by decide) (by decide)) fun v M' g p => ?_) ja_nil) (by decide)) (sing_ex hCr) (pg_name (i := 4) hN rfl (Or.inl rfl)) PassesOwn.never rfl
    (fun N1 i σ Cx => ∃ (Nc Nw : Hp) (W' : Wr) (o4 o5 o6 : Option V), Pair K Cc a b M C (k + i) Nc Nw Cx W' W' ∧ Off N1 Nc Nw Cx ∧ N1 r = some (rngO r) ∧ W'.us = W.us ∧ Fit W' z c (d + i) ∧ σ = [some (.ref r), some (.ref a.c), some (.ref b.w), some (.int 3), o4, o5, o6])
    (fun N1 C1 g => ⟨Nc0, Nw0, W, none, none, none, P0.grow g.ext, O0.gr P0 g, g.up _ _ sing_same, rfl, fit, rfl⟩) (fun N1 i σ Cx ⟨_, _, _, _, _, _, _, h, _⟩ => h.ex) (fun N1 i x σ Cx M4 C4 e1 hi hPx gM hx => ?_) fun N1 n σ Cx e1 hn hPx => ?_
  · obtain ⟨j, rfl, h0, h1⟩ := p
    exact ⟨j, rfl, h0, by omega⟩
  · obtain ⟨Nc, Nw, W', o4, o5, o6, Pr, O, h1r, hus, ft, rfl⟩ := hPx
    have hx' : x = V.int (i : Nat) := hx
    subst hx'
    have P4 := Pr.grow gM.ext
    have O4 := (O.gr Pr gM).of gM.up
    have r4 : C4 r = some (rngO r) := O4.ex _ _ h1r
    have hmods : W'.mods = W.mods := by unfold Wr.mods; rw [hus]
    have dsc' := dsc.of_us hus
    have dsw' := dsw.of_us hus
    have hsl : (strsD W'.mods).length = W'.mods.length := List.length_map _
    have hfew : W'.mods.length ≤ 3 := by unfold Wr.mods; rw [List.length_map]; exact ft.ok.few
    have eUn : ∀ {C5 : Hp}, Ex C4 C5 → Ex (un (sing r (rngO r)) Nw) C5 := fun e => un_sub (sing_ex (e _ _ r4)) (P4.eW.trans e)
    have hwU : WldAt K (un (sing r (rngO r)) Nw) b W' := Pr.hw.mono (un_r (sing_ex r4) P4.eW)
    refine r_set 5 (N := un (sing r (rngO r)) Nw) (P := mR K (· ∈ strsD W'.mods)) (j_call c2 hr (ja_cons (P := mIs (.ref r)) (jv 0) (ja_cons (P := mIs (.ref b.mo)) (j_wmo hwU (hu_of hr) (jv 2)) ja_nil)) fun vs M' g p => ?_) (eUn (Ex.refl _)) hN fun v5 N5 C5 g5 p5 => ?_
    · obtain ⟨y, l, rfl, rfl, rfl⟩ := la2 p
      refine ⟨r, .ref b.mo, strsD W'.mods, rfl, g _ _ (un_l _ _ sing_same), (hwU.mono g).mod, fun z => hne ?_, by omega, rfl⟩
      rw [← hmods]; exact List.map_eq_nil_iff.mp z
    obtain ⟨d5, hd5, hp5⟩ := p5
    obtain ⟨m, hm, rfl⟩ := List.mem_map.mp hd5
    obtain rfl := dp_str hp5
    have tl : ((W'.there m).map PyData.int).length = (W'.there m).length := List.length_map _
    have hthl : (W'.there m).length ≤ 100 := by
      unfold Wr.there
      rw [List.length_map]
      have h1 := List.length_filter_le (fun i : Nat => !decide ((i : Int) ∈ W'.wd m)) (List.range (W'.cnt m))
      rw [List.length_range] at h1
      have h2 := ft.ok.cs m
      omega
    have P5 := P4.grow g5.ext
    have O5 := O4.grow g5.ext
    refine r_if (N := Nw) (k := decide ((1 : Int) < (((W'.there m).map PyData.int).length : Int))) (jt_cmp op_gt (j_lenL ((j_wthM Pr.hw hm (hu_of hr) (jv 2) (jv 5)).val (Pr.hw.thr hm)) B.len) j_int rv_I0) P5.eW (fun hk2 C6 e6 => ?_) fun hk2 C6 e6 => ?_
    · have hlen : 1 < (W'.there m).length := by
        have := of_decide_eq_true hk2
        omega
      refine r_set 6 (N := un (sing r (rngO r)) Nw) (P := mR K (· ∈ (W'.there m).map PyData.int)) (j_call c2 hr (ja_cons (P := mIs (.ref r)) (jv 0) (ja_cons (P := mIs (.ref (b.tl m))) (j_wthM hwU hm (hu_of hr) (jv 2) (jv 5)) ja_nil)) fun vs M' g p => ?_) (eUn (g5.ext.trans e6)) hN fun v7 N7 C7 g7 p7 => ?_
      · obtain ⟨y, l, rfl, rfl, rfl⟩ := la2 p
        refine ⟨r, .ref (b.tl m), (W'.there m).map PyData.int, rfl, g _ _ (un_l _ _ sing_same), (hwU.mono g).thr hm, fun z => ?_, by omega, rfl⟩
        have := congrArg List.length z
        rw [tl] at this
        have h2 : (W'.there m).length = 0 := this
        omega
      obtain ⟨d7, hd7, hp7⟩ := p7
      obtain ⟨i7, hi7, rfl⟩ := List.mem_map.mp hd7
      obtain rfl := dp_int hp7
      obtain ⟨q, hq, hq2, hq3⟩ := there_mem.mp hi7
      subst hq
      have P7 := P5.grow (e6.trans g7.ext)
      have O7 := O5.grow (e6.trans g7.ext)
      have hwl := ft.wdl m
      refine r_exprE (te_meth (N := Nc) (G := noHp) (Pm := fun v N' => CatAt K Cc N' a (wdW W' m q) ∧ RecLe N' a (k + i + 1)) c3 T.cl hr (jv 1) Pr.ca.obj (catF_no a (by decide +kernel)) (ja_cons (P := mIs (.str m)) (jv 5) (ja_cons (P := mIs (.int (q : Int))) (jv 6) ja_nil)) P7.eC no_ex apart_no (fun vs G' eG' apG p => ?_) fun v8 N8 C8 mu8 pm8 => ?_)
      · obtain ⟨y, l, rfl, rfl, rfl⟩ := la2 p
        exact ⟨a, W', m, q, k + i, rfl, Pr.ca, dsc', ft.ok, hm, hi7, Pr.rl, by omega, by omega, fun N' h1 h2 => ⟨h1, h2⟩⟩
      obtain ⟨P8, hO8⟩ := P7.cat mu8 pm8.1 pm8.2
      have O8 := hO8 _ O7
      have hl0 := Pr.hw.tl m hm
      obtain ⟨jx, hjx⟩ : ∃ jx : Nat, (W'.there m)[jx]? = some (q : Int) ∧ ∀ n : Nat, n < jx → (W'.there m)[n]? ≠ some (q : Int) := by
        obtain ⟨jx, hjx⟩ := List.getElem?_of_mem hi7
        refine ⟨jx, hjx, fun n hn z => ?_⟩
        have := (List.getElem?_inj (List.getElem?_eq_some_iff.mp hjx).1 (there_nodup W' m)).mp (hjx.trans z.symm)
        omega
      refine r_exprE (le_E (pe_bm PySem.F.plainAttrs_list PySem.F.slot_list_remove PySem.F.type_list_remove mt_remove pE (pa_cons pE pa_nil)) ?_)
      refine (j_wthM Pr.hw hm (hu_of hr) (jv 2) (jv 5)).ev C8 P8.eW _ fun C9 e9 => ⟨.inl ⟨rfl, _, SqL.of (e9 _ _ (P8.eW _ _ hl0))⟩, ?_⟩
      refine (jv 6 : J _ _ _ noHp (mIs (.int (q : Int)))).ev C9 no_ex _ fun C10 e10 => ⟨b.tl m, W'.there m, q, jx, rfl, rfl, (e9.trans e10) _ _ (P8.eW _ _ hl0), hjx.1, hjx.2, ?_⟩
      have P10 := P8.grow (e9.trans e10)
      have O10 := O8.grow (e9.trans e10)
      have hl10 : C10 (b.tl m) = some (.lst ((W'.there m).map V.int)) := P10.eW _ _ hl0
      have hw10 : WldAt K (upd C10 (b.tl m) (.lst (((W'.there m).eraseIdx jx).map V.int))) b (wdW W' m q) := (Pr.hw.mono P10.eW).chgT dsw' hm (fun x o hx h => by rw [upd_ne hx]; exact h) (by rw [upd_same, there_wd, erase_filter (there_nodup W' m) hjx.1]) rfl rfl fun n hn => there_wd' hn
      have mu10 : Mu Nw C10 (Gs.rst (WldDom b (wdW W' m q)) (upd C10 (b.tl m) (.lst (((W'.there m).eraseIdx jx).map V.int)))) (upd C10 (b.tl m) (.lst (((W'.there m).eraseIdx jx).map V.int))) := mu_wld Pr.hw rfl (fun x o hx h => by rw [upd_ne (fun z => by rw [z, hl0] at hx; cases hx)]; exact h) fun x o t h => by rw [upd_ne (fun z => by rw [z, hl10] at h; cases h; exact isT_lst t)]; exact h
      obtain ⟨P11, hO11⟩ := P10.wld mu10 hw10.rst
      exact r_nil (r_nil ⟨_, _, wdW W' m q, _, _, _, P11, hO11 _ O10, h1r, hus, ft.wdr hi7, rfl⟩)
    · exact r_nil (r_nil ⟨Nc, Nw, W', _, _, o6, (P5.grow e6).mono (Nat.le_succ _), O5.grow e6, h1r, hus, ft.mono (Nat.le_refl _) (Nat.le_succ _), rfl⟩)
  · obtain ⟨Nc, Nw, W', o4, o5, o6, Pr, O, h1r, hus, ft, rfl⟩ := hPx
    exact r_nil (nx _ _ _ Pr.mu (hP _ _ W' hus (Pr.mono (by omega)).two (ft.mono (Nat.le_refl _) (by omega))))
end
end Gs

set_option Elab.async false
set_option linter.all false
set_option maxRecDepth 100000
set_option maxHeartbeats 4000000
/-! GsTw3: _law_published. -/
namespace Gs
open PySem PySem.Spec PyProof.Rows L2 Evl
/-! ### plain -/
def lastQ (ws : List Wn) : Wn := ws.getLast?.getD (0, some 1)
def shQ (t : Int) (q : Wn) : Wn := (q.1 + t, q.2.map (· + t))
def qsOf (W : Wr) (m : PySem.Str) (ns : List PySem.Str) (t : Int) : List Wn := ns.map fun n => shQ t (lastQ (W.win m n))
theorem lastQ_split (ws : List Wn) : ∃ init, [wD (0, some 1)] ++ ws.map wD = init ++ [wD (lastQ ws)] := by
  rcases List.eq_nil_or_concat ws with rfl | ⟨r, q, rfl⟩
  · exact ⟨[], rfl⟩
  · refine ⟨[wD (0, some 1)] ++ r.map wD, ?_⟩
    unfold lastQ
    rw [List.concat_eq_append, List.getLast?_concat, List.map_append, List.append_assoc]
    rfl
theorem lastQ_all {ws : List Wn} {R : Wn → Prop} (h0 : R (0, some 1)) (h : ∀ q ∈ ws, R q) : R (lastQ ws) := by
  unfold lastQ
  cases e : ws.getLast? with
  | none => exact h0
  | some q => exact h q (List.mem_of_getLast? e)
theorem qsOf_ok {W : Wr} {z : Int} {c d : Nat} (h : Fit W z c d) {m : PySem.Str} {ns : List PySem.Str} (hm : (m, ns) ∈ W.us) {t : Int} (h0 : 0 ≤ t) (h1 : t ≤ 1) (hc : c ≤ 8) (hz : 1 ≤ z) (hz2 : z ≤ 90) : PubOk W m ns (qsOf W m ns t) ∧ Fit (pubW W m ns (qsOf W m ns t)) (z + 1) (c + 1) d := by
  have P : PubOk W m ns (qsOf W m ns t) := by
    refine ⟨hm, List.length_map _, fun q hq => ?_, fun i n q p hn hq hp => ?_, by have := h.cnt m; omega⟩
    · obtain ⟨n, _, rfl⟩ := List.mem_map.mp hq
      have h2 : WinOk (lastQ (W.win m n)) := lastQ_all (R := WinOk) ⟨by decide, fun x hx => by cases hx; decide⟩ (h.ok.ok m n)
      refine ⟨by have := h2.1; show 0 ≤ _ + t; omega, fun x hx => ?_⟩
      obtain ⟨y, hy, rfl⟩ := Option.map_eq_some_iff.mp hx
      have := h2.2 y hy
      show _ + t ≤ y + t
      omega
    · unfold qsOf at hq
      rw [List.getElem?_map, hn] at hq
      have hq' : shQ t (lastQ (W.win m n)) = q := Option.some.inj hq
      have e : lastQ (W.win m n) = p := by unfold lastQ; rw [hp]; rfl
      rw [e] at hq'
      subst hq'
      refine ⟨by show p.1 ≤ p.1 + t; omega, ?_⟩
      obtain ⟨lo, hi⟩ := p
      cases hi with
      | none => rfl
      | some x => exact decide_eq_true (by show x ≤ x + t; omega)
  have sm : Sm W (z + 1) := fun u n q hq => by
    obtain ⟨a, b⟩ := h.sm u n q hq
    exact ⟨by omega, fun x hx => by have := b x hx; omega⟩
  obtain ⟨W1, W2⟩ := h.ok.pub P sm (by omega) fun q hq => by
    obtain ⟨n, _, rfl⟩ := List.mem_map.mp hq
    have h2 : (lastQ (W.win m n)).1 ≤ z ∧ ∀ x, (lastQ (W.win m n)).2 = some x → x ≤ z := lastQ_all (R := fun q => q.1 ≤ z ∧ ∀ x, q.2 = some x → x ≤ z) ⟨by show (0 : Int) ≤ z; omega, fun x hx => by cases hx; omega⟩ (h.sm m n)
    refine ⟨by have := h2.1; show _ + t ≤ z + 1; omega, fun x hx => ?_⟩
    obtain ⟨y, hy, rfl⟩ := Option.map_eq_some_iff.mp hx
    have := h2.2 y hy
    show y + t ≤ z + 1
    omega
  have cn : ∀ u, W.cnt u ≤ (pubW W m ns (qsOf W m ns t)).cnt u := fun u => by
    show W.cnt u ≤ if u = m then W.cnt u + 1 else W.cnt u
    split <;> omega
  refine ⟨P, W1, W2, fun u => ?_, h.wdl, fun u i hi => ?_⟩
  · show (if u = m then W.cnt u + 1 else W.cnt u) ≤ c + 1
    have := h.cnt u
    split <;> omega
  · have := h.wdi u i hi
    have := cn u
    omega
/-- one more version, its windows not told yet -/
def cntW (W : Wr) (m : PySem.Str) : Wr := { W with cnt := fun u => if u = m then W.cnt u + 1 else W.cnt u }
theorem there_cnt {W : Wr} {m : PySem.Str} (h : ∀ i, i ∈ W.wd m → i < (W.cnt m : Int)) : (cntW W m).there m = W.there m ++ [(W.cnt m : Int)] := by
  unfold Wr.there
  show ((List.range (if m = m then W.cnt m + 1 else W.cnt m)).filter _).map _ = _
  have hn : (!decide ((W.cnt m : Int) ∈ (cntW W m).wd m)) = true := by
    have : (W.cnt m : Int) ∉ (cntW W m).wd m := fun z => by have := h _ z; omega
    rw [decide_eq_false this]; rfl
  rw [if_pos rfl, range_filter (fun i : Nat => !decide ((i : Int) ∈ (cntW W m).wd m)), if_pos hn, List.map_append]
  rfl
theorem there_cnt' {W : Wr} {m n : PySem.Str} (h : n ≠ m) : (cntW W m).there n = W.there n := by
  unfold Wr.there
  show ((List.range (if n = m then W.cnt n + 1 else W.cnt n)).filter _).map _ = _
  rw [if_neg h]
  rfl
theorem ji_zipL {σ : L2.St} {N : Hp} {ta : TA} {K : PySem.W.Frag} {ds es : List PyData} {n : Nat} (h : EvAP ta σ N (lCons (mD K (.list ds)) (lCons (mD K (.list es)) lNil))) (hn : n = min ds.length es.length) :
    JI (iZip K ta) σ N n fun i => ⟨fun x H => ∃ T u v d e, x = .ref T ∧ H T = some (.tup [u, v]) ∧ ds[i]? = some d ∧ es[i]? = some e ∧ Dp K H u d ∧ Dp K H v e, fun e ⟨T, u, v, d, e', h1, h2, h3, h4, h5, h6⟩ => ⟨T, u, v, d, e', h1, e _ _ h2, h3, h4, dp_mono e h5, dp_mono e h6⟩⟩ := fun C eC R k =>
  h C eC _ fun vs N1 C1 g p => by
    obtain ⟨x, y, rfl, hx, hy⟩ := la2 p
    obtain ⟨a, xs, rfl, s1, al1⟩ := dp_lst hx
    obtain ⟨b, ys, rfl, s2, al2⟩ := dp_lst hy
    have W : Walk (Itz K a b) n (fun H => SqL K H a xs ∧ SqL K H b ys) (YPair (fun i => xs[i]?) (fun i => ys[i]?)) := walk_zip (by rw [dps_len al1, dps_len al2]; exact hn)
    refine ⟨a, b, xs, ys, rfl, ex_l g.sub s1, ex_l g.sub s2, k _ N1 C1 g ⟨fun i H hi e => W.goes i H hi ⟨ex_l e s1, ex_l e s2⟩, fun H e => W.stops H ⟨ex_l e s1, ex_l e s2⟩, fun i H x H' hi e y => ?_⟩⟩
    obtain ⟨T, u, v, rfl, hT, rfl, hu, hv⟩ := W.yields i H x H' hi ⟨ex_l e s1, ex_l e s2⟩ y
    obtain ⟨d, hd, hdu⟩ := dps_get al1 hu
    obtain ⟨e', he, hev⟩ := dps_get al2 hv
    have hn1 : N1 T = none := fresh_back e hT
    exact ⟨upd N1 T (.tup [u, v]), (Gr.refl e).new hT, T, u, v, d, e', rfl, upd_same, hd, he, dp_mono (Ex.new hn1) hdu, dp_mono (Ex.new hn1) hev⟩
noncomputable def delS (S : Addr → Prop) (H : Hp) : Hp := fun x => open Classical in if S x then none else H x
theorem delS_at {S : Addr → Prop} {H : Hp} {x : Addr} (h : ¬ S x) : delS S H x = H x := if_neg h
theorem delS_no {S : Addr → Prop} {H : Hp} {x : Addr} (h : S x) : delS S H x = none := if_pos h
theorem delS_ex {S : Addr → Prop} {H : Hp} : Ex (delS S H) H := fun x o h => by
  by_cases z : S x
  · rw [delS_no z] at h; cases h
  · rw [delS_at z] at h; exact h
theorem Apart.upd {N F : Hp} (a : Apart N F) {l : Addr} {o : HO} (h : N l = none) : Apart N (upd F l o) := fun b u hb => by
  by_cases z : b = l
  · subst z; exact .inl h
  · rw [upd_ne z] at hb; exact a b u hb
theorem upd_sub {F C : Hp} {l : Addr} {o : HO} (e : Ex F C) (h : C l = some o) : Ex (upd F l o) C := fun b u hb => by
  by_cases z : b = l
  · subst z; rw [upd_same] at hb; cases hb; exact h
  · rw [upd_ne z] at hb; exact e _ _ hb
section
variable {P : Program} {w : World} {K : PySem.W.Frag} {mg : PySem.Str → Option Value} {base : Heap} {Cc : Addr}
def prePbl (K : PySem.W.Frag) (Cc : Addr) (vs : List V) (N G : Hp) (Pm : V → Hp → Prop) : Prop := ∃ (r : Addr) (a : CatA) (b : WldA) (W : Wr) (k c d : Nat) (z : Int), vs = [.ref r, .ref a.c, .ref b.w] ∧ G r = some (rngO r) ∧ Two K Cc a b k N W ∧ CatDs a W ∧ WldDs b W ∧ Fit W z c d ∧ W.mods ≠ [] ∧ k ≤ 800 ∧ c ≤ 8 ∧ 1 ≤ z ∧ z ≤ 90 ∧
  ∀ v N' W', W'.us = W.us → Two K Cc a b (k + 1) N' W' → Fit W' (z + 1) (c + 1) d → Pm v N'
theorem ok_published (F : DF K mg "_law_published" (top 67)) (B : Bt mg) (T : CatC K Cc) (c1 : Cl P w K mg base 1 "_law_draw" preDraw) (c2 : Cl P w K mg base 2 "_law_choice" (preChoice K)) (c3 : MtU P w K mg base 6 Cc "publish" (prePub K Cc)) : ClU P w K mg base 7 "_law_published" (prePbl K Cc) := by
  refine clu_of (N := ["_law_rng_here", "_law_catalog", "_law_world_here", "_law_name_here", "_law_some", "_law_more", "_law_used", "_law_low", "_law_high", "_law_item"]) (ps := ["_law_rng_here", "_law_catalog", "_law_world_here"]) F (by decide +kernel) (fun vs M G Pm h => ?_) (fun _ _ _ _ _ _ us hl => match us, hl with | [_, _, _], _ => rfl) fun f cdv A outer s C E vs M G Pm D hr eM eG ap h rt nx => ?_
  · obtain ⟨r, a, b, W, k, c, d, z, rfl, _⟩ := h; rfl
  obtain ⟨r, a, b, W, k, c, d, z, rfl, hGr, two, dsc, dsw, fit, hne, hk, hc, hz1, hz2, hP⟩ := h
  have hN : (["_law_rng_here", "_law_catalog", "_law_world_here", "_law_name_here", "_law_some", "_law_more", "_law_used", "_law_low", "_law_high", "_law_item"] : List PySem.Str).Nodup := by decide +kernel
  obtain ⟨Nc0, Nw0, hM, P0, hoff⟩ := two.pair eM
  have hCr : C r = some (rngO r) := eG _ _ hGr
  have hsl0 : (strsD W.mods).length = W.mods.length := List.length_map _
  have hfew : W.mods.length ≤ 3 := by unfold Wr.mods; rw [List.length_map]; exact fit.ok.few
  have hwU : WldAt K (un (sing r (rngO r)) Nw0) b W := P0.hw.mono (un_r (sing_ex hCr) P0.eW)
  refine r_set 3 (N := un (sing r (rngO r)) Nw0) (P := mR K (· ∈ strsD W.mods)) (j_call c2 hr (ja_cons (P := mIs (.ref r)) (jv 0) (ja_cons (P := mIs (.ref b.mo)) (j_wmo hwU (hu_of hr) (jv 2)) ja_nil)) fun vs M' g p => ?_) (un_sub (sing_ex hCr) P0.eW) hN fun v5 N5 C5 g5 p5 => ?_
  · obtain ⟨y, l, rfl, rfl, rfl⟩ := la2 p
    exact ⟨r, .ref b.mo, strsD W.mods, rfl, g _ _ (un_l _ _ sing_same), (hwU.mono g).mod, fun z => hne (List.map_eq_nil_iff.mp z), by omega, rfl⟩
  obtain ⟨d5, hd5, hp5⟩ := p5
  obtain ⟨m, hm, rfl⟩ := List.mem_map.mp hd5
  obtain rfl := dp_str hp5
  obtain ⟨ns, hns⟩ := mem_us hm
  have P5 := P0.grow g5.ext
  have r5 : C5 r = some (rngO r) := g5.ext _ _ hCr
  have hnf := uses_few fit.ok m
  rw [fit.ok.usesOf hns] at hnf
  have hnl : (strsD ns).length = ns.length := List.length_map _
  refine r_par 4 5 rfl hN (N := sing r (rngO r)) (P1 := mNew (sing r (rngO r)) (.lst [])) (P2 := fun _ _ => mI fun j => 0 ≤ j ∧ j < 2) j_newL (fun v N1 e _ => j_draw c1 hr (jv 0) j_int (e _ _ sing_same) (by decide) (by decide)) (sing_ex r5) fun v1 v2 N6 C6 N7 C7 g6 p6 g7 p7 => ?_
  obtain ⟨l, rfl, hl0, hl1⟩ := p6
  obtain ⟨t, rfl, ht0, ht1⟩ := p7
  have hl5 : C5 l = none := dom_new g6 hl1 hl0 fun _ z => by cases z
  have hl7 : C7 l = some (.lst []) := g7.ext _ _ (g6.sub _ _ hl1)
  have g57 : Gr Nw0 C5 Nw0 C7 := Gr.of_ex P5.eW (g6.ext.trans g7.ext)
  have hNwl : Nw0 l = none := fresh_back P5.eW hl5
  have hNcl : Nc0 l = none := fresh_back P5.eC hl5
  have qT : ∀ i, (h : i < ns.length) → qsOf W m (ns.take (i + 1)) t = qsOf W m (ns.take i) t ++ [shQ t (lastQ (W.win m ns[i]))] := fun i h => by
    have hT1 : ns.take (i + 1) = ns.take i ++ [ns[i]] := by rw [List.take_succ, List.getElem?_eq_getElem h]; rfl
    unfold qsOf
    rw [hT1, List.map_append]
    rfl
  refine r_for (N := Nw0) (n := (strsD ns).length) (I := fun j => mR K fun d => (strsD ns)[j]? = some d) (pi_list pE) (ji_list ((j_wusM P0.hw hm (hu_of hr) (jv 2) (jv 3)).val (P0.hw.uses hns))) g57.sub (pg_name (i := 6) hN rfl (Or.inl rfl)) PassesOwn.never rfl
    (fun N1 i σ Cx => ∃ (Mi : Hp) (ys : List V) (o6 o7 o8 : Option V), Gr Nw0 C5 Mi Cx ∧ Ex N1 Mi ∧ Mi l = none ∧ Cx l = some (.lst ys) ∧ DpAll K Mi ys ((qsOf W m (ns.take i) t).map wD) ∧ ys.length ≤ i ∧ σ = [some (.ref r), some (.ref a.c), some (.ref b.w), some (.str m), some (.ref l), some (.int t), o6, o7, o8, none])
    (fun N1 C1 g => ⟨N1, [], none, none, none, g57.trans g, Ex.refl _, g.out hNwl hl7, g.ext _ _ hl7, by rw [List.take_zero]; exact .nil, Nat.le_refl _, rfl⟩) (fun N1 i σ Cx ⟨Mi, _, _, _, _, h, h2, _⟩ => h2.trans h.sub) (fun N1 i x σ Cx M4 C4 e1 hi hPx gM hx => ?_) fun N1 σ Cx e1 hPx => ?_
  · obtain ⟨Mi, ys, o6, o7, o8, gi, eNi, hMl, hCl, hdy, hyl, rfl⟩ := hPx
    obtain ⟨gm2, em2⟩ := gM.more eNi gi.sub
    obtain ⟨dd, hd1, hd2⟩ := hx
    have hi' : i < ns.length := by omega
    unfold strsD at hd1
    rw [List.getElem?_map, List.getElem?_eq_getElem hi'] at hd1
    have hd1' : PyData.str ns[i] = dd := Option.some.inj hd1
    subst hd1'
    obtain rfl := dp_str hd2
    have hnm : ns[i] ∈ ns := List.getElem_mem hi'
    have g4 := gi.trans gm2
    have hw4 := P0.hw.mono g4.up
    have hl4 := gm2.out hMl hCl
    have hC4l := gm2.ext _ _ hCl
    have hwl := fit.ok.len m ns ns[i] hns hnm
    have hcs := fit.ok.cs m
    obtain ⟨init, hsp⟩ := lastQ_split (W.win m ns[i])
    have hwml : ((W.win m ns[i]).map wD).length = (W.win m ns[i]).length := List.length_map _
    refine r_asg (N := un Mi M4) (P := mD K (wD (lastQ (W.win m ns[i])))) (j_ixL (K := K) (ds := [wD (0, some 1)] ++ (W.win m ns[i]).map wD) (J.imp (P := mNL (un Mi M4) K fun ds => ∃ d1 d2, d1 = [wD (0, some 1)] ∧ d2 = (W.win m ns[i]).map wD ∧ ds = d1 ++ d2) (j_catL (N1 := un Mi M4) (N2 := noHp) (R1 := (· = [wD (0, some 1)])) (R2 := (· = (W.win m ns[i]).map wD)) (j_lstN (ja_consD (j_tup (ja_consD (j_int.val (.int 0)) (ja_consD (j_int.val (.int 1)) ja_nilD)) (by show 2 ≤ 100000; decide)) ja_nilD) (by show 1 ≤ 100000; decide)) (J.imp (P := mIs (.ref (b.wl m ns[i]))) (j_wwiM hw4 hns hnm (hu_of hr) (jv 2) (jv 3) (jv 6)) fun v M' g p => ?_) fun d1 d2 h1 h2 => ?_) fun v M' g p => mNL_D p fun es ⟨d1, d2, h1, h2, h3⟩ => by rw [h3, h1, h2]) j_m1 (by rw [hsp]; exact atI_last _ _)) g4.sub (pg_tup rfl (pgs_cons (pg_name (i := 7) hN rfl (Or.inl rfl)) (pgs_cons (pg_name (i := 8) hN rfl (Or.inl rfl)) pgs_nil))) fun v8 N8 C8 g8 p8 => ?_
    · have p' : v = V.ref (b.wl m ns[i]) := p
      subst p'
      obtain ⟨ws, h1, h2⟩ := (hw4.mono g).wl m ns ns[i] hns hnm
      exact ⟨_, ws, _, rfl, rfl, h1, h2, rfl⟩
    · have e1 : d1.length = 1 := by rw [h1]; rfl
      have e2 : d2.length = (W.win m ns[i]).length := by rw [h2, hwml]
      omega
    obtain ⟨lo, hi8, hq8⟩ : ∃ lo hi, lastQ (W.win m ns[i]) = (lo, hi) := ⟨_, _, rfl⟩
    rw [hq8] at p8
    obtain ⟨T8, xs8, rfl, s8, al8⟩ := dp_tup p8
    obtain ⟨u8, xs8, rfl, hu8, al8⟩ := dps_cons_inv al8
    obtain ⟨u9, xs8, rfl, hu9, al8⟩ := dps_cons_inv al8
    obtain rfl := dps_nil_inv al8
    obtain rfl := dp_int hu8
    obtain rfl := dp_hD hu9
    have g48 := g4.trans g8
    refine gp2 (ex_t g8.sub s8) ?_
    refine r_app (l := l) (xs := ys) (N := N8) (P := mD K (wD (shQ t (lo, hi8)))) (jv 4) (j_tup (K := K) (ja_consD ((j_add (jv 7) (jv 5)).val (.int _)) (ja_consD (d := hD (hi8.map (· + t))) ?_ ja_nilD)) (by show 2 ≤ 100000; decide)) g8.sub (g8.out hl4 hC4l) (g8.ext _ _ hC4l) (by omega) fun v9 N9 C9 g9 hN9 p9 => ?_
    · cases hi8 with
      | none => exact j_ife (k := true) (jt_cmp op_isN (jv 8) j_non (by rw [show V.bl true = V.bl (decide (hV none = V.non)) from rfl]; exact rv_isN)) (fun _ => j_non.val .non) fun z => nomatch z
      | some x => exact j_ife (k := false) (jt_cmp op_isN (jv 8) j_non (by rw [show V.bl false = V.bl (decide (hV (some x) = V.non)) from rfl]; exact rv_isN)) (fun z => nomatch z) fun _ => (j_add (jv 8) (jv 5)).val (.int _)
    · have e69 : Ex Mi N9 := gm2.up.trans (g8.up.trans g9.up)
      refine r_nil ⟨N9, ys ++ [v9], _, _, _, (g48.trans g9).mut hl5 hN9, eNi.trans e69, hN9, upd_same, ?_, by rw [List.length_append]; show ys.length + 1 ≤ i + 1; omega, rfl⟩
      rw [qT i hi', hq8, List.map_append]
      exact dps_snoc (dps_mono e69 hdy) p9
  · obtain ⟨Mi, ys, o6, o7, o8, gi, eNi, hMl, hCl, hdy, hyl, rfl⟩ := hPx
    rw [hnl, List.take_length] at hdy
    obtain ⟨Po, fit2⟩ := qsOf_ok fit hns ht0 (by omega) hc hz1 hz2
    have hql : (qsOf W m ns t).length = ns.length := List.length_map _
    have hqm : ((qsOf W m ns t).map wD).length = ns.length := by rw [List.length_map, hql]
    have P7 := P5.grow gi.ext
    have eF : Ex (upd Mi l (.lst ys)) Cx := upd_sub gi.sub hCl
    have apF : Apart Nc0 (upd Mi l (.lst ys)) := (P5.ap.grow P5.eC gi).upd hNcl
    have hlD : Dp K (upd Mi l (.lst ys)) (.ref l) (.list ((qsOf W m ns t).map wD)) := .lst (SqL.of upd_same) (dps_mono (Ex.new hMl) hdy)
    have htl0 := P0.hw.tl m hm
    have hthl : (W.there m).length ≤ 100 := by
      unfold Wr.there
      rw [List.length_map]
      have h1 := List.length_filter_le (fun i : Nat => !decide ((i : Int) ∈ W.wd m)) (List.range (W.cnt m))
      rw [List.length_range] at h1
      have h2 := fit.ok.cs m
      omega
    refine r_exprE (le_E (pe_bm PySem.F.plainAttrs_list PySem.F.slot_list_append PySem.F.type_list_append mt_append pE (pa_cons pE pa_nil)) ?_)
    refine (j_wthM P0.hw hm (hu_of hr) (jv 2) (jv 3)).ev Cx P7.eW _ fun C8 e8 => ⟨.inl ⟨rfl, _, SqL.of (e8 _ _ (P7.eW _ _ htl0))⟩, ?_⟩
    have P8 := P7.grow e8
    refine te_meth (N := Nc0) (G := upd Mi l (.lst ys)) (Pm := fun v N' => v = .int (W.cnt m : Int) ∧ CatAt K Cc N' a (pubW W m ns (qsOf W m ns t)) ∧ RecLe N' a (k + 1)) c3 T.cl hr (jv 1) P0.ca.obj (catF_no a (by decide +kernel)) (ja_cons (P := mIs (.str m)) (jv 3) (ja_cons (P := mD K (.list ((qsOf W m ns t).map wD))) (j_var 4 hlD) ja_nil)) P8.eC (eF.trans e8) apF (fun vs G' eG' apG p => ?_) fun v9 N9 C9 mu9 pm9 => ?_
    · obtain ⟨y, z', rfl, rfl, hz'⟩ := la2 p
      exact ⟨a, W, m, ns, qsOf W m ns t, z', k, rfl, P0.ca, dsc, fit.ok, Po.us, hz', Po.len, Po.ok, Po.rise, Po.cnt, P0.rl, by omega, fun N' h1 h2 => ⟨rfl, h1, h2⟩⟩
    obtain ⟨rfl, ca9, rl9⟩ := pm9
    obtain ⟨P9, hO9⟩ := P8.cat mu9 ca9 rl9
    have eF9 : Ex (upd Mi l (.lst ys)) C9 := apF.ex mu9 (eF.trans e8)
    have hl9 : C9 l = some (.lst ys) := eF9 _ _ upd_same
    have htl9 : C9 (b.tl m) = some (.lst ((W.there m).map V.int)) := P9.eW _ _ htl0
    refine ⟨b.tl m, (W.there m).map V.int, .int (W.cnt m : Int), rfl, rfl, htl9, sz_lt (by rw [List.length_map]; omega), ?_⟩
    have hmap : (W.there m).map V.int ++ [V.int (W.cnt m : Int)] = ((cntW W m).there m).map V.int := by rw [there_cnt (fit.wdi m), List.map_append]; rfl
    have hw10 : WldAt K (upd C9 (b.tl m) (.lst ((W.there m).map V.int ++ [.int (W.cnt m : Int)]))) b (cntW W m) := (P0.hw.mono P9.eW).chgT dsw hm (fun x o hx h => by rw [upd_ne hx]; exact h) (by rw [upd_same, hmap]) rfl rfl fun n hn => there_cnt' hn
    have mu10 : Mu Nw0 C9 (Gs.rst (WldDom b (cntW W m)) (upd C9 (b.tl m) (.lst ((W.there m).map V.int ++ [.int (W.cnt m : Int)])))) (upd C9 (b.tl m) (.lst ((W.there m).map V.int ++ [.int (W.cnt m : Int)]))) := mu_wld P0.hw rfl (fun x o hx h => by rw [upd_ne (fun z => by rw [z, htl0] at hx; cases hx)]; exact h) fun x o t h => by rw [upd_ne (fun z => by rw [z, htl9] at h; cases h; exact isT_lst t)]; exact h
    obtain ⟨P10, _⟩ := P9.wld mu10 hw10.rst
    have hltl : l ≠ b.tl m := fun z => by rw [← z, hNwl] at htl0; cases htl0
    have hl10 : (upd C9 (b.tl m) (.lst ((W.there m).map V.int ++ [.int (W.cnt m : Int)]))) l = some (.lst ys) := by rw [upd_ne hltl]; exact hl9
    have tupC : ∀ x o, isT o → Mi x = some o → (upd C9 (b.tl m) (.lst ((W.there m).map V.int ++ [.int (W.cnt m : Int)]))) x = some o := fun x o t h => by
      have h9 : C9 x = some o := mu9.keep x o t (e8 _ _ (gi.sub _ _ h))
      rw [upd_ne (fun z => by rw [z, htl9] at h9; cases h9; exact isT_lst t)]; exact h9
    have hul10 := hw10.ul m ns hns
    have hwl10 : ∀ n ∈ ns, ∃ xs, (upd C9 (b.tl m) (.lst ((W.there m).map V.int ++ [.int (W.cnt m : Int)]))) (b.wl m n) = some (.lst xs) := fun n hn => by
      obtain ⟨ws, h1, _⟩ := hw10.wl m ns n hns hn
      exact ⟨ws, h1⟩
    generalize hC10 : upd C9 (b.tl m) (.lst ((W.there m).map V.int ++ [.int (W.cnt m : Int)])) = C10 at P10 hl10 tupC hul10 hwl10
    generalize Gs.rst (WldDom b (cntW W m)) C10 = Nw10 at P10
    have dsw1 : WldDs b (cntW W m) := dsw.of_us rfl
    have hwl0 : ∀ n ∈ ns, ∃ xs, Nw0 (b.wl m n) = some (.lst xs) := fun n hn => by
      obtain ⟨ws, h1, _⟩ := P0.hw.wl m ns n hns hn
      exact ⟨ws, h1⟩
    have hww := P10.hw
    obtain ⟨kus, hkus, _, hkus2⟩ := hww.us
    obtain ⟨kwi, hkwi, _, hkwi2⟩ := hww.wi
    have hwlN : ∀ n ∈ ns, ∃ xs, Nw10 (b.wl m n) = some (.lst xs) := fun n hn => by
      obtain ⟨ws, h1, _⟩ := hww.wl m ns n hns hn
      exact ⟨ws, h1⟩
    have eG2 : Ex (upd (delS (fun x => ∃ n ∈ ns, x = b.wl m n) Nw10) l (.lst ys)) C10 := upd_sub (delS_ex.trans P10.eW) hl10
    have hG2l : (upd (delS (fun x => ∃ n ∈ ns, x = b.wl m n) Nw10) l (.lst ys)) l = some (.lst ys) := upd_same
    have hG2w : ∀ n ∈ ns, (upd (delS (fun x => ∃ n ∈ ns, x = b.wl m n) Nw10) l (.lst ys)) (b.wl m n) = none := fun n hn => by
      obtain ⟨xs, h1⟩ := hwl0 n hn
      have e1 : b.wl m n ≠ l := fun z => by rw [z, hNwl] at h1; cases h1
      rw [upd_ne e1]
      exact delS_no ⟨n, hn, rfl⟩
    have hG2d : ∀ x o, (∀ xs, o ≠ .lst xs) → Nw10 x = some o → (upd (delS (fun x => ∃ n ∈ ns, x = b.wl m n) Nw10) l (.lst ys)) x = some o := fun x o ho h => by
      rw [upd_ne (ne_ob (P10.eW _ _ h) hl10 (ho _)), delS_at]
      · exact h
      · rintro ⟨n, hn, rfl⟩
        obtain ⟨xs, h1⟩ := hwlN n hn
        rw [h1] at h
        exact ho _ (Option.some.inj h).symm
    have hG2u : (upd (delS (fun x => ∃ n ∈ ns, x = b.wl m n) Nw10) l (.lst ys)) (b.ul m) = some (.lst (ns.map V.str)) := by
      have lul : b.ul m ≠ l := fun z => by have h := P0.hw.ul m ns hns; rw [z, hNwl] at h; cases h
      rw [upd_ne lul, delS_at]
      · exact hww.ul m ns hns
      · rintro ⟨n, hn, e⟩
        exact dsw.dj (.u m) (.w m n) hm ⟨ns, hns, hn⟩ (fun z => by cases z) e
    generalize upd (delS (fun x => ∃ n ∈ ns, x = b.wl m n) Nw10) l (.lst ys) = G2 at eG2 hG2l hG2u hG2w hG2d
    have eT : Ex (tpl G2 C10) C10 := tpl_sub eG2 (Ex.refl _)
    have tp := tpl_T eG2 (Ex.refl C10)
    have hlT : Dp K (tpl G2 C10) (.ref l) (.list ((qsOf W m ns t).map wD)) := .lst (SqL.of (tpl_G _ _ hG2l)) (dps_tups (fun x o t h => tp x o t (tupC x o t h)) (noLs_all fun d hd => by
      obtain ⟨q, _, rfl⟩ := List.mem_map.mp hd
      exact noL_wD q) hdy)
    have huT : Dp K (tpl G2 C10) (.ref (b.ul m)) (.list (strsD ns)) := .lst (SqL.of (tpl_G _ _ hG2u)) (dps_strs ns)
    have hwT : ∀ n ∈ ns, tpl G2 C10 (b.wl m n) = none := fun n hn => by
      unfold tpl
      rw [hG2w n hn]
      simp only [ne_eq, not_true_eq_false, if_false]
      obtain ⟨xs, h1⟩ := hwl10 n hn
      refine if_neg fun ⟨o', h2, h3⟩ => ?_
      rw [h1] at h2
      cases h2
      exact isT_lst h3
    have tw : tpl G2 C10 b.w = some (.dK (wldF b)) := tpl_G _ _ (hG2d _ _ (fun _ z => by cases z) hww.dd)
    have tu : tpl G2 C10 b.us = some (.dK kus) := tpl_G _ _ (hG2d _ _ (fun _ z => by cases z) hkus)
    have ti : tpl G2 C10 b.wi = some (.dT kwi) := tpl_G _ _ (hG2d _ _ (fun _ z => by cases z) hkwi)
    generalize tpl G2 C10 = TG at eT hlT huT hwT tw tu ti
    refine r_for (N := TG) (n := ns.length) (pi_zip rfl B.zip pA) (ji_zipL (K := K) (ds := strsD ns) (es := (qsOf W m ns t).map wD) (ja_cons (P := mD K (.list (strsD ns))) ((j_dget (hu_of hr) (j_dget (hu_of hr) (jv 2) j_str (by rw [← (wldG b).2.1]; exact DGet.k (k := .inr "uses") tw)) (jv 3) (by rw [← hkus2 m hm]; exact DGet.k (k := .inr m) tu)).val huT) (ja_cons (j_var 4 (P := mD K _) hlT) ja_nil)) (by rw [hnl, hqm]; simp)) eT (pg_tup rfl (pgs_cons (pg_name (i := 6) hN rfl (Or.inl rfl)) (pgs_cons (pg_name (i := 9) hN rfl (Or.inl rfl)) pgs_nil))) PassesOwn.never rfl
      (fun N11 i σ C11 => ∃ (Nw' : Hp) (o6 o9 : Option V), Pair K Cc a b M C (k + 1) N9 Nw' C11 (pubW W m ns (qsOf W m ns t)) (colW (cntW W m) m (ns.take i) ((qsOf W m ns t).take i)) ∧ Ex N11 C11 ∧ Ex TG N11 ∧ (∀ n ∈ ns, N11 (b.wl m n) = none) ∧ σ = [some (.ref r), some (.ref a.c), some (.ref b.w), some (.str m), some (.ref l), some (.int t), o6, o7, o8, o9])
      (fun N11 C11 g => ⟨Nw10, o6, none, by rw [List.take_zero, colW_nil]; exact P10.grow g.ext, g.sub, g.up, fun n hn => by obtain ⟨xs, h⟩ := hwl10 n hn; exact g.out (hwT n hn) h, rfl⟩) (fun N11 i σ C11 ⟨_, _, _, _, h, _⟩ => h) (fun N11 i x σ C11 M12 C12 e11 hi hPx gM hx => ?_) fun N11 σ C11 e11 hPx => ?_
    · obtain ⟨Nw', p6, p9, Pr, eN11, eTG, hno, rfl⟩ := hPx
      obtain ⟨Tb, u, v', dd, e', rfl, hT, hd1, he1, hd2, he2⟩ := hx
      have hiq : i < (qsOf W m ns t).length := by omega
      unfold strsD at hd1
      rw [List.getElem?_map, List.getElem?_eq_getElem hi] at hd1
      have hd1' : PyData.str ns[i] = dd := Option.some.inj hd1
      subst hd1'
      rw [List.getElem?_map, List.getElem?_eq_getElem hiq] at he1
      have he1' : wD (qsOf W m ns t)[i] = e' := Option.some.inj he1
      subst he1'
      obtain rfl := dp_str hd2
      have hnm : ns[i] ∈ ns := List.getElem_mem hi
      have P12 := Pr.grow gM.ext
      obtain ⟨xs, hx1, hx2⟩ := Pr.hw.wl m ns ns[i] hns hnm
      have hC11 := Pr.eW _ _ hx1
      have hC12 := gM.ext _ _ hC11
      have hM12 := gM.out (hno _ hnm) hC11
      have dswi : WldDs b (colW (cntW W m) m (ns.take i) ((qsOf W m ns t).take i)) := dsw.of_us rfl
      have hxl : xs.length < 100000 := by
        have h1 := dps_len hx2
        rw [List.length_map] at h1
        have h2 : ((colW (cntW W m) m (ns.take i) ((qsOf W m ns t).take i)).win m ns[i]).length = (W.win m ns[i]).length + (addQ (ns.take i) ((qsOf W m ns t).take i) ns[i]).length := by
          show (if m = m then _ else _ : List Wn).length = _
          rw [if_pos rfl, List.length_append]
          rfl
        have h3 : (addQ (ns.take i) ((qsOf W m ns t).take i) ns[i]).length ≤ ns.length := by
          refine Nat.le_trans (List.length_filterMap_le _ _) ?_
          rw [List.length_zip, List.length_take]
          omega
        have h4 := fit.ok.len m ns ns[i] hns hnm
        have h5 := fit.ok.cs m
        omega
      refine gp2 (SqT.of (gM.sub _ _ hT)) ?_
      refine r_app (l := b.wl m ns[i]) (xs := xs) (N := M12) (P := mIs v') (j_dget2 (k1 := .inr m) (k2 := .inr ns[i]) (hu_of hr) (j_dget (hu_of hr) (jv 2) j_str (by rw [← (wldG b).2.2.1]; exact DGet.k (k := .inr "windows") ((eTG.trans gM.up) _ _ tw))) (jv 3) (jv 6) ((eTG.trans gM.up) _ _ ti) (hkwi2 m ns _ hns hnm)) (jv 9) gM.sub hM12 hC12 hxl fun v13 N13 C13 g13 hN13 p13 => ?_
      have p13' : v13 = v' := p13
      subst p13'
      have P13 := P12.grow g13.ext
      have hC13 := g13.ext _ _ hC12
      have hT1 : ns.take (i + 1) = ns.take i ++ [ns[i]] := by rw [List.take_succ, List.getElem?_eq_getElem hi]; rfl
      have hT2 : (qsOf W m ns t).take (i + 1) = (qsOf W m ns t).take i ++ [(qsOf W m ns t)[i]] := by rw [List.take_succ, List.getElem?_eq_getElem hiq]; rfl
      have hTl : (ns.take i).length = ((qsOf W m ns t).take i).length := by rw [List.length_take, List.length_take, hql]
      have k14 : ∀ x o, x ≠ b.wl m ns[i] → C13 x = some o → (upd C13 (b.wl m ns[i]) (.lst (xs ++ [v13]))) x = some o := fun x o hx h => by rw [upd_ne hx]; exact h
      have tup14 : ∀ x o, isT o → C13 x = some o → (upd C13 (b.wl m ns[i]) (.lst (xs ++ [v13]))) x = some o := fun x o t h => k14 x o (fun z => by rw [z, hC13] at h; cases h; exact isT_lst t) h
      have hv14 : Dp K (upd C13 (b.wl m ns[i]) (.lst (xs ++ [v13]))) v13 (wD (qsOf W m ns t)[i]) := dp_tups (fun x o t h => tup14 x o t (g13.ext _ _ (gM.sub _ _ h))) (noL_wD _) he2
      have hx14 : DpAll K (upd C13 (b.wl m ns[i]) (.lst (xs ++ [v13]))) xs (((colW (cntW W m) m (ns.take i) ((qsOf W m ns t).take i)).win m ns[i]).map wD) := dps_tups (fun x o t h => tup14 x o t (P13.eW _ _ h)) (noLs_all fun d hd => by
        obtain ⟨q, _, rfl⟩ := List.mem_map.mp hd
        exact noL_wD q) hx2
      have hw14 : WldAt K (upd C13 (b.wl m ns[i]) (.lst (xs ++ [v13]))) b (colW (cntW W m) m (ns.take (i + 1)) ((qsOf W m ns t).take (i + 1))) := by
        refine (Pr.hw.mono P13.eW).chgW dswi hns hnm k14 hC13 upd_same ?_ rfl (fun u x hux => ?_) fun _ => rfl
        · have e : (colW (cntW W m) m (ns.take (i + 1)) ((qsOf W m ns t).take (i + 1))).win m ns[i] = (colW (cntW W m) m (ns.take i) ((qsOf W m ns t).take i)).win m ns[i] ++ [(qsOf W m ns t)[i]] := by
            show (if m = m then _ else _ : List Wn) = (if m = m then _ else _ : List Wn) ++ _
            rw [if_pos rfl, if_pos rfl, hT1, hT2, addQ_snoc hTl, if_pos rfl, List.append_assoc]
          rw [e, List.map_append]
          exact dps_snoc hx14 hv14
        · show (if u = m then _ else _ : List Wn) = (if u = m then _ else _ : List Wn)
          by_cases z : u = m
          · subst z
            have hxn : ¬ ns[i] = x := fun z => hux (by rw [z])
            rw [if_pos rfl, if_pos rfl, hT1, hT2, addQ_snoc hTl, if_neg hxn, List.append_nil]
          · rw [if_neg z, if_neg z]
      have mu14 : Mu Nw' C13 (Gs.rst (WldDom b (colW (cntW W m) m (ns.take (i + 1)) ((qsOf W m ns t).take (i + 1)))) (upd C13 (b.wl m ns[i]) (.lst (xs ++ [v13])))) (upd C13 (b.wl m ns[i]) (.lst (xs ++ [v13]))) := mu_wld Pr.hw rfl (fun x o hx h => k14 x o (fun z => by rw [z, hx1] at hx; cases hx) h) tup14
      obtain ⟨P14, _⟩ := P13.wld mu14 hw14.rst
      exact r_nil ⟨_, _, _, P14, fun x o h => k14 x o (fun z => by rw [z, hno _ hnm] at h; cases h) (g13.ext _ _ (gM.sub _ _ (gM.up _ _ h))), eTG, hno, rfl⟩
    · obtain ⟨Nw', p6, p9, Pr, eN11, eTG, hno, rfl⟩ := hPx
      rw [List.take_length, show (qsOf W m ns t).take ns.length = qsOf W m ns t by rw [← hql, List.take_length]] at Pr
      have Pr' : Pair K Cc a b M C (k + 1) N9 Nw' C11 (pubW W m ns (qsOf W m ns t)) (pubW W m ns (qsOf W m ns t)) := Pr
      exact r_nil (nx _ _ _ Pr'.mu (hP _ _ (pubW W m ns (qsOf W m ns t)) rfl Pr'.two fit2))
end
end Gs

set_option Elab.async false
set_option linter.all false
set_option maxRecDepth 100000
set_option maxHeartbeats 4000000
/-! GsTop: _law_right, law. -/
namespace Gs
open PySem PySem.Spec PyProof.Rows L2 Evl
/-! ### plain -/
theorem RwsIs.set {rs : List Rw} (h : RwsIs rs) {j : Nat} {r : Rw} (hj : rs[j]? = Option.some r) : RwsIs (rs.set j { r with vs := [] }) := by
  have hn : (rs.set j { r with vs := [] }).map (·.nm) = rs.map (·.nm) := by
    rw [List.map_set]
    refine List.ext_getElem? fun i => ?_
    rw [List.getElem?_set]
    split
    · rename_i e
      subst e
      have hlt : j < (rs.map (·.nm)).length := by rw [List.length_map]; exact (List.getElem?_eq_some_iff.mp hj).1
      rw [if_pos hlt, List.getElem?_map, hj]; rfl
    · rfl
  have hr : r ∈ rs := List.mem_of_getElem? hj
  refine ⟨by rw [hn]; exact h.nd, fun x hx => ?_, by rw [List.length_set]; exact h.few, fun z => h.some ?_, fun x hx => ?_⟩
  · rcases List.mem_or_eq_of_mem_set hx with hx | rfl
    · exact h.nm x hx
    · exact h.nm r hr
  · have := congrArg List.length z
    rw [List.length_set] at this
    exact List.length_eq_zero_iff.mp this
  · rw [hn]
    rcases List.mem_or_eq_of_mem_set hx with hx | rfl
    · exact h.ok x hx
    · have O := h.ok r hr
      exact ⟨O.nd, O.isin, Nat.zero_le _, fun v hv => (by cases hv), fun j hj => WsOk.nil⟩
theorem dps_set {K : PySem.W.Frag} {H : Hp} {v : V} {d : PyData} (hv : Dp K H v d) : ∀ {vs : List V} {ds : List PyData} {j : Nat}, DpAll K H vs ds → DpAll K H (vs.set j v) (ds.set j d)
  | _, _, _, .nil => .nil
  | _, _, 0, .cons _ a => .cons hv a
  | _, _, j + 1, .cons h a => .cons h (dps_set hv a)
theorem Full.fit {rs : List Rw} {W : Wr} (h : Full rs W) (R : RwsIs rs) : Fit (⟨W.us, W.win, fun m => if m ∈ W.mods then W.cnt m else 0, W.wd⟩) 22 4 0 := by
  have hc : ∀ m, m ∈ W.mods → W.cnt m ≤ 4 := fun m hm => by
    rw [h.mods] at hm
    obtain ⟨r, hr, rfl⟩ := List.mem_map.mp hm
    rw [(h.at_ r hr).1]
    exact (R.ok r hr).few
  have o := h.ok
  refine ⟨⟨o.nd, o.few, o.ns, fun m ns n h1 h2 => ?_, o.ok, o.low, o.small, fun m => ?_, o.nm⟩, h.sm, fun m => ?_, fun m => ?_, fun m i hi => ?_⟩
  · show (W.win m n).length = if m ∈ W.mods then W.cnt m else 0
    rw [if_pos (us_mem (W := W) h1)]; exact o.len m ns n h1 h2
  · show (if m ∈ W.mods then W.cnt m else 0) ≤ 10
    split
    · exact o.cs m
    · omega
  · show (if m ∈ W.mods then W.cnt m else 0) ≤ 4
    split
    · rename_i hm; exact hc m hm
    · omega
  · show (W.wd m).length ≤ 0
    rw [h.wd]; exact Nat.le_refl _
  · have hi' : i ∈ W.wd m := hi
    rw [h.wd] at hi'
    cases hi'
theorem drop_erase {i : Int} {l : List Int} {k : Nat} (nd : l.Nodup) (h : l[k]? = some i) : (l.drop k).filter (fun x => decide (x ≠ i)) = l.drop (k + 1) := by
  have e : (l.drop k)[0]? = some i := by rw [List.getElem?_drop, Nat.add_zero]; exact h
  rw [← erase_filter (nd.sublist (List.drop_sublist _ _)) e, List.eraseIdx_zero, List.tail_drop]
/-! ### the heap -/
theorem Gr.tup {N C N' C' : Hp} (g : Gr N C N' C') {T : Addr} {xs : List V} (h : C' T = some (.tup xs)) : Gr N C (upd N' T (.tup xs)) C' := ⟨fun b u e => by
  by_cases z : b = T
  · subst z
    have := g.sub _ _ (g.up _ _ e)
    rw [h] at this
    rw [upd_same]; exact this
  · rw [upd_ne z]; exact g.up _ _ e, upd_sub g.sub h, g.ext, fun b u e => by
  by_cases z : b = T
  · subst z; rw [upd_same] at e; cases e; exact .inr (.inr ⟨xs, rfl⟩)
  · rw [upd_ne z] at e; exact g.dom b u e⟩
theorem ex_updT {N C' : Hp} {T : Addr} {o : HO} (e : Ex N C') (h : C' T = some o) : Ex N (upd N T o) := fun b u hb => by
  by_cases z : b = T
  · subst z
    have := e _ _ hb
    rw [h] at this
    rw [upd_same]; exact this
  · rw [upd_ne z]; exact hb
/-- a new tuple of three, the last one a new list -/
def mT3 (N : Hp) (u v : V) : MP := ⟨fun x H => ∃ T q, x = .ref T ∧ H T = some (.tup [u, v, .ref q]) ∧ N q = none ∧ H q = some (.lst []), fun e ⟨T, q, h1, h2, h3, h4⟩ => ⟨T, q, h1, e _ _ h2, h3, e _ _ h4⟩⟩
theorem j_tup3 {X : Cx} {a b c : Expr} {σ : L2.St} {N : Hp} {u v : V} {k : Nat} {pos : Pos} (h1 : J X a σ N (mIs u)) (h2 : J X b σ N (mIs v)) (h3 : J X c σ N (mNew N (.lst []))) (hs1 : starEach [a, b, c] X.env = (false, eval a X.env) :: starEach [b, c] X.env := by rfl) (hs2 : starEach [b, c] X.env = (false, eval b X.env) :: starEach [c] X.env := by rfl) (hs3 : starEach [c] X.env = (false, eval c X.env) :: starEach [] X.env := by rfl) : J X (.Tuple [a, b, c] k pos) σ N (mT3 N u v) :=
  j_of (pe_tup pA) fun C eC Q q => (ja_cons h1 (ja_cons h2 (ja_cons h3 ja_nil hs3) hs2) hs1) C eC _ fun vs N1 C1 g p => by
    obtain ⟨x, y, z, rfl, hx, hy, q1, rfl, hz1, hz2⟩ := la3 p
    have hx' : x = u := hx
    have hy' : y = v := hy
    subst hx' hy'
    exact ⟨(by show 3 ≤ sizeLine; exact sz_of (by decide)), fun q0 hq => q (.ref q0) _ _ (g.new hq) ⟨q0, q1, rfl, upd_same, hz1, (Ex.new (fresh_back g.sub hq)) _ _ hz2⟩⟩
theorem j_ixTS {X : Cx} {a b : Expr} {σ : L2.St} {N : Hp} {tb : Addr} {xs : List V} {v : V} {i : Int} {pos : Pos} (ha : J X a σ N (mIs (.ref tb))) (hb : J X b σ N (mIs (.int i))) (hl : SqT X.K N tb xs) (hi : atI xs i = some v) (hs : PlainIx b := by exact fun _ _ => rfl) : J X (.Subscript a b pos) σ N (mIs v) := j_ev (pe_ix ix_tup pE pE hs) (ev_op ha.ev hb.ev (rv_ixT hl hi))
structure Sit (K : PySem.W.Frag) (Cc : Addr) (a : CatA) (b : WldA) (C N Cx : Hp) (k : Nat) (W : Wr) : Prop where
  two : Two K Cc a b k N W
  eN : Ex N Cx
  eC : Ex C Cx
  ap : Apart N C
section
variable {K : PySem.W.Frag} {Cc : Addr} {a : CatA} {b : WldA} {C N N' Cx Cy : Hp} {k k' : Nat} {W W' : Wr}
theorem Sit.grow (h : Sit K Cc a b C N Cx k W) (e : Ex Cx Cy) : Sit K Cc a b C N Cy k W := ⟨h.two, h.eN.trans e, h.eC.trans e, h.ap⟩
theorem Sit.mu (h : Sit K Cc a b C N Cx k W) (m : Mu N Cx N' Cy) (t : Two K Cc a b k' N' W') : Sit K Cc a b C N' Cy k' W' := ⟨t, m.sub, h.ap.ex m h.eC, h.ap.next m h.eC⟩
end
theorem CatAt.congr {K : PySem.W.Frag} {Cc : Addr} {C : Hp} {a : CatA} {W W2 : Wr} (h : CatAt K Cc C a W) (e1 : W2.us = W.us) (e2 : W2.win = W.win) (e3 : W2.wd = W.wd) (e4 : ∀ m, m ∈ W.mods → W2.cnt m = W.cnt m) : CatAt K Cc C a W2 := by
  have em : W2.mods = W.mods := by unfold Wr.mods; rw [e1]
  refine ⟨h.obj, by rw [e1]; exact h.ut, by rw [e1]; exact h.wt, by rw [e1, e2]; exact h.ls, ?_, by rw [em]; exact h.wd, by rw [em, e3]; exact h.ds, h.rc⟩
  obtain ⟨kvs, h1, h2, h3⟩ := h.ct
  refine ⟨kvs, h1, h2, fun m hm => ?_⟩
  rw [em] at hm
  rw [e4 m hm]; exact h3 m hm
theorem WldAt.congr2 {K : PySem.W.Frag} {C : Hp} {b : WldA} {W W2 : Wr} (h : WldAt K C b W) (e1 : W2.us = W.us) (e2 : W2.win = W.win) (e3 : ∀ m, m ∈ W.mods → W2.there m = W.there m) : WldAt K C b W2 := by
  have em : W2.mods = W.mods := by unfold Wr.mods; rw [e1]
  refine ⟨h.dd, by rw [em]; exact h.mo, by rw [em]; exact h.us, by rw [e1]; exact h.ul, by rw [e1]; exact h.wi, by rw [e1, e2]; exact h.wl, by rw [em]; exact h.th, fun m hm => ?_⟩
  rw [em] at hm
  rw [e3 m hm]; exact h.tl m hm
/-- a module's list of available versions is another one now -/
theorem WldAt.chgTh {K : PySem.W.Frag} {C C' : Hp} {b : WldA} {W W2 : Wr} {m : PySem.Str} {q : Addr} {kT : List (Key × V)} (h : WldAt K C b W) (ds : WldDs b W) (hm : m ∈ W.mods) (hkT : C b.th = some (.dK kT)) (hkl : kT.length ≤ 1000) (hkv : ∀ m, m ∈ W.mods → valV kT (.inr m) = some (.ref (b.tl m))) (fr : ∀ x o, x ≠ b.th → C x = some o → C' x = some o) (hth : C' b.th = some (.dK (putK kT (.inr m) (.ref q)))) (hq : C' q = some (.lst ((W2.there m).map V.int))) (e1 : W2.us = W.us) (e2 : W2.win = W.win) (e3 : ∀ n, n ≠ m → W2.there n = W.there n) :
    WldAt K C' { b with tl := fun n => if n = m then q else b.tl n } W2 := by
  have f1 : ∀ {x : Addr} {o : HO}, C x = some o → (∀ xs, o ≠ .dK xs) → C' x = some o := fun {x o} hx h2 => fr x o (ne_ob hx hkT (h2 _)) hx
  have ft : ∀ x o, isT o → C x = some o → C' x = some o := fun x o t hx => f1 hx fun xs z => isT_dK (z ▸ t)
  have em : W2.mods = W.mods := by unfold Wr.mods; rw [e1]
  refine ⟨fr _ _ ds.tw.symm h.dd, by rw [em]; exact f1 h.mo (fun _ z => by cases z), ?_, fun m' ns hm' => ?_, ?_, fun m' ns n h1 h2 => ?_, ?_, fun m' hm' => ?_⟩
  · obtain ⟨k, h1, h2, h3⟩ := h.us
    exact ⟨k, fr _ _ ds.tu.symm h1, h2, by rw [em]; exact h3⟩
  · rw [e1] at hm'
    exact f1 (h.ul m' ns hm') (fun _ z => by cases z)
  · obtain ⟨k, h1, h2, h3⟩ := h.wi
    exact ⟨k, f1 h1 (fun _ z => by cases z), h2, by rw [e1]; exact h3⟩
  · rw [e1] at h1
    obtain ⟨ws, h3, h4⟩ := h.wl m' ns n h1 h2
    rw [e2]
    refine ⟨ws, f1 h3 (fun _ z => by cases z), dps_tups ft (noLs_all fun d hd => ?_) h4⟩
    obtain ⟨q, _, rfl⟩ := List.mem_map.mp hd
    exact noL_wD q
  · refine ⟨_, hth, by rw [length_putIn (hkv m hm)]; exact hkl, fun m' hm' => ?_⟩
    rw [em] at hm'
    rw [valV_put]
    show _ = some (V.ref (if m' = m then q else b.tl m'))
    by_cases z : m' = m
    · subst z; rw [if_pos rfl, if_pos rfl]
    · have z' : ¬ (Sum.inr m' : Key) = Sum.inr m := fun h => z (Sum.inr.inj h)
      rw [if_neg z', if_neg z]
      exact hkv m' hm'
  · rw [em] at hm'
    show C' (if m' = m then q else b.tl m') = _
    by_cases z : m' = m
    · subst z; rw [if_pos rfl]; exact hq
    · rw [if_neg z, e3 m' z]
      exact f1 (h.tl m' hm') (fun _ z => by cases z)
end Gs

set_option Elab.async false
set_option linter.all false
set_option maxRecDepth 100000
set_option maxHeartbeats 4000000
/-! GsTop2: _law_right. -/
namespace Gs
open PySem PySem.Spec PyProof.Rows L2 Evl
section
variable {P : Program} {w : World} {K : PySem.W.Frag} {mg : PySem.Str → Option Value} {base : Heap} {Cc : Addr}
def preRight (vs : List V) (N : Hp) (P : MP) : Prop := ∃ r, vs = [.ref r] ∧ N r = some (rngO r) ∧ P = mIs (.bl true)
theorem ok_right (F : DF K mg "_law_right" (top 68)) (B : Bt mg) (T : CatC K Cc) (c1 : Cl P w K mg base 1 "_law_draw" preDraw) (c2 : Cl P w K mg base 2 "_law_choice" (preChoice K)) (c3 : Cl P w K mg base 4 "_law_rows" (fun vs N P => preRows vs N P K)) (c4 : ClN P w K mg base 7 "catalog_of" (preCatOf K Cc)) (c5 : ClN P w K mg base 1 "_law_world" (preWorld K))
    (c6 : ClG P w K mg base 9 "_law_all_right" (preAll K Cc)) (c7 : ClU P w K mg base 5 "_law_withdrawn" (preWdn K Cc)) (c8 : ClU P w K mg base 7 "_law_published" (prePbl K Cc)) (c9 : MtU P w K mg base 4 Cc "withdraw" (preWdr K Cc)) : ClG P w K mg base 10 "_law_right" preRight := by
  refine clG_of (N := ["_law_rng_here", "_law_rows_here", "_law_at", "_law_catalog", "_law_world_here", "_law_name_here", "_law_version"]) (ps := ["_law_rng_here"]) F (by decide +kernel) (fun vs M Pm h => ?_) (fun _ _ _ _ _ _ us hl => match us, hl with | [_], _ => rfl) fun f cdv A outer s C E vs M Pm D hr hgd eM h rt => ?_
  · obtain ⟨r, rfl, _⟩ := h; rfl
  obtain ⟨r, rfl, hMr, rfl⟩ := h
  have hN : (["_law_rng_here", "_law_rows_here", "_law_at", "_law_catalog", "_law_world_here", "_law_name_here", "_law_version"] : List PySem.Str).Nodup := by decide
  have hCr : C r = some (rngO r) := eM _ _ hMr
  refine r_set 1 (N := M) (P := mRows M K) (j_call c3 hr (ja_cons (P := mIs (.ref r)) (jv 0) (ja_cons (P := mIs (.int 3)) j_int (ja_cons (P := mIs (.int 4)) j_int (ja_cons (j_draw c1 hr (jv 0) j_int hMr (by decide) (by decide)) ja_nil)))) fun vs M' g p => ?_) eM hN fun v1 N1 C1 g1 p1 => ?_
  · obtain ⟨x1, x2, x3, x4, rfl, rfl, rfl, rfl, t, rfl, h0, h1⟩ := la4 p
    exact ⟨r, t, rfl, g _ _ hMr, h0, by omega, fun v H ⟨l, xs, ns, rs, m, a1, a2, a3⟩ => ⟨l, xs, ns, rs, m, a1, fresh_back g a2, a3⟩⟩
  obtain ⟨l, xs, ns, rs, mm, rfl, hMl, hl1, hdx, hnms, hm1, hm3, hrs⟩ := p1
  have hCl : C l = none := dom_new g1 hl1 hMl fun _ z => by cases z
  have gl : Gr M C (L2.del N1 l) C1 := g1.del hMl
  have hl1C : C1 l = some (.lst xs) := g1.sub _ _ hl1
  have R : RwsIs rs := by
    obtain ⟨a1, a2, a3⟩ := hnms
    have hn := hrs.names
    have hlen : rs.length = mm := by rw [← a1, ← hn, List.length_map]
    refine ⟨by rw [hn]; exact a2, fun x hx => a3 _ (by rw [← hn]; exact List.mem_map.mpr ⟨x, hx, rfl⟩), by omega, fun z => ?_, fun x hx => by rw [hn]; exact hrs.ok x hx⟩
    rw [z] at hlen
    have : (0 : Nat) = mm := hlen
    omega
  refine r_ifM (A := fun _ => True) (N := M) (fun σ Cx => ∃ (Nr : Hp) (ys : List V) (qs : List Rw) (o2 : Option V), Gr M C Nr Cx ∧ Nr l = none ∧ Cx l = some (.lst ys) ∧ DpAll K Nr ys (qs.map rwD) ∧ RwsIs qs ∧ σ = [some (.ref r), some (.ref l), o2, none, none, none, none]) (jb_cmpP op_eq (j_draw c1 hr (jv 0) j_int hMr (by decide) (by decide)) j_int fun x y M' g hx hy => ?_) (eM.trans g1.ext) (fun _ C2 e2 => ?_) (fun _ C2 e2 => r_nil ⟨_, xs, rs, _, gl.grow e2, del_same, e2 _ _ hl1C, hdx, R, rfl⟩) fun σ Cx hS => ?_
  · obtain ⟨j, rfl, h0, h9⟩ := hx
    have hy' : y = V.int 0 := hy
    subst hy'
    exact rp_rv (rv_val fun H1 e Q q => ⟨rfl, q⟩) ⟨_, rfl, trivial⟩
  · have hl2 : C2 l = some (.lst xs) := e2 _ _ hl1C
    have g2 := gl.grow e2
    have eL2 : Ex (upd (L2.del N1 l) l (.lst xs)) C2 := upd_sub g2.sub hl2
    have eDL : Ex (L2.del N1 l) (upd (L2.del N1 l) l (.lst xs)) := Ex.new del_same
    have hdL : Dp K (upd (L2.del N1 l) l (.lst xs)) (.ref l) (.list (rs.map rwD)) := .lst (SqL.of upd_same) (dps_mono eDL hdx)
    have hrl : (rs.map rwD).length = rs.length := List.length_map _
    have hxl : xs.length = rs.length := by rw [dps_len hdx, hrl]
    have hfew := R.few
    have hpos : 0 < rs.length := List.length_pos_iff.mpr R.some
    have hrL : (upd (L2.del N1 l) l (.lst xs)) r = some (rngO r) := eDL _ _ (gl.up _ _ hMr)
    refine r_set 2 (N := upd (L2.del N1 l) l (.lst xs)) (P := mI fun j => 0 ≤ j ∧ j < (rs.map rwD).length) (j_draw c1 hr (jv 0) (j_lenL (j_var 1 (P := mD K (.list (rs.map rwD))) hdL) B.len) hrL (by omega) (by omega)) eL2 hN fun v3 N3 C3 g3 p3 => ?_
    obtain ⟨j, rfl, hj0, hj1⟩ := p3
    obtain ⟨j, rfl⟩ := Int.eq_ofNat_of_zero_le hj0
    have hj : j < rs.length := by omega
    have hl3 : C3 l = some (.lst xs) := g3.ext _ _ hl2
    have g23 := g2.grow g3.ext
    have eL3 : Ex (upd (L2.del N1 l) l (.lst xs)) C3 := eL2.trans g3.ext
    obtain ⟨x, hx, hxd⟩ := dps_at hdx (i := j) (d := rwD rs[j]) (by rw [List.getElem?_map, List.getElem?_eq_getElem hj]; rfl)
    obtain ⟨Tb, u, lv, rfl, hT, hu, hlv⟩ := dp_row hxd
    have jx : ∀ {p1 p2 p3 : Pos}, J (cxN P w K mg base ["_law_rng_here", "_law_rows_here", "_law_at", "_law_catalog", "_law_world_here", "_law_name_here", "_law_version"] "_law_right" (top 68) f cdv A outer s C E) (.Subscript (.Name "_law_rows_here" p1) (.Name "_law_at" p2) p3) [some (.ref r), some (.ref l), some (.int (j : Int)), none, none, none, none] (upd (L2.del N1 l) l (.lst xs)) (mIs (.ref Tb)) := j_ixX (jv 1) (jv 2) upd_same (atI_nat hx)
    refine r_asg (N := upd (L2.del N1 l) l (.lst xs)) (P := mT3 (upd (L2.del N1 l) l (.lst xs)) (.str rs[j].nm) u) (j_tup3 (j_ixTS jx j_int (ex_t eDL hT) (atI_nat (i := 0) rfl)) (j_ixTS jx j_int (ex_t eDL hT) (atI_nat (i := 1) rfl)) j_newL) eL3 (pg_sub pE pE set_list) fun v4 N4 C4 g4 p4 => ?_
    obtain ⟨T4, q4, rfl, hT4, hq4, hq4'⟩ := p4
    have hq3 : C3 q4 = none := dom_new g4 hq4' hq4 fun _ z => by cases z
    have hqC : C q4 = none := fresh_back g23.ext hq3
    have hMq : M q4 = none := fresh_back eM hqC
    refine (jv 1 : J _ _ _ noHp (mIs (.ref l))).ev C4 no_ex _ fun C5 e5 => (jv 2 : J _ _ _ noHp (mIs (.int (j : Int)))).ev C5 no_ex _ fun C6 e6 => ?_
    have x46 : Ex C4 C6 := e5.trans e6
    have hl6 : C6 l = some (.lst xs) := x46 _ _ (g4.ext _ _ hl3)
    have hT6 : C6 T4 = some (.tup [.str rs[j].nm, u, .ref q4]) := x46 _ _ (g4.sub _ _ hT4)
    have hq6 : C6 q4 = some (.lst []) := x46 _ _ (g4.sub _ _ hq4')
    refine ⟨l, xs, j, j, rfl, rfl, hl6, ixN_nat (by omega), ?_⟩
    have g6 := g23.grow (g4.ext.trans x46)
    have hnq : (L2.del N1 l) q4 = none := fresh_back g23.sub hq3
    have hql : l ≠ q4 := fun z => by rw [← z, hl3] at hq3; cases hq3
    have hTl : l ≠ T4 := ne_ob hl6 hT6 fun z => by cases z
    have gq : Gr M C (upd (L2.del N1 l) q4 (.lst [])) C6 := g6.take hq6 hqC hMq
    have gT := gq.tup hT6
    have hNl : (upd (upd (L2.del N1 l) q4 (.lst [])) T4 (.tup [.str rs[j].nm, u, .ref q4])) l = none := by rw [upd_ne hTl, upd_ne hql]; exact del_same
    have eQ : Ex (L2.del N1 l) (upd (L2.del N1 l) q4 (.lst [])) := Ex.new hnq
    have eT : Ex (upd (L2.del N1 l) q4 (.lst [])) (upd (upd (L2.del N1 l) q4 (.lst [])) T4 (.tup [.str rs[j].nm, u, .ref q4])) := ex_updT gq.sub hT6
    have hTq : q4 ≠ T4 := ne_ob hq6 hT6 fun z => by cases z
    have hq' : (upd (upd (L2.del N1 l) q4 (.lst [])) T4 (.tup [.str rs[j].nm, u, .ref q4])) q4 = some (.lst []) := by rw [upd_ne hTq]; exact upd_same
    have hrw : Dp K (upd (upd (L2.del N1 l) q4 (.lst [])) T4 (.tup [.str rs[j].nm, u, .ref q4])) (.ref T4) (rwD { rs[j] with vs := [] }) := .tup (SqT.of upd_same) (.cons (.str _) (.cons (dp_mono (eQ.trans eT) hu) (.cons (.lst (SqL.of hq') .nil) .nil)))
    refine r_nil ⟨_, xs.set j (.ref T4), rs.set j { rs[j] with vs := [] }, _, gT.mut hCl hNl, hNl, upd_same, ?_, R.set (List.getElem?_eq_getElem hj), rfl⟩
    rw [List.map_set]
    exact dps_set hrw (dps_mono (eQ.trans eT) hdx)
  obtain ⟨Nr, ys, qs, o2, gr, hNrl, hCxl, hdy, R2, rfl⟩ := hS
  have hrl : (qs.map rwD).length = qs.length := List.length_map _
  have eDL : Ex Nr (upd Nr l (.lst ys)) := Ex.new hNrl
  have eLx : Ex (upd Nr l (.lst ys)) Cx := upd_sub gr.sub hCxl
  have hdL : Dp K (upd Nr l (.lst ys)) (.ref l) (.list (qs.map rwD)) := .lst (SqL.of upd_same) (dps_mono eDL hdy)
  refine r_of (ps_par (i := 3) (j := 4) rfl hN rfl rfl (by decide) rfl rfl (pa_cons pE (pa_cons pE pa_nil)) rfl rfl) ?_
  refine te_callN (Pm := fun v N' => ∃ a W, v = .ref a.c ∧ CatAt K Cc N' a W ∧ CatDs a W ∧ RecLe N' a 12 ∧ Full qs W) c4 hr (ja_cons (P := mD K (.list (qs.map rwD))) (j_var 1 hdL) ja_nil) eLx (fun vs G' eG p => ?_) fun v2 Nc C2 np pm => ?_
  · obtain ⟨y, rfl, hy⟩ := la1 p
    exact ⟨y, qs, rfl, hy, R2, fun a W N' h1 h2 h3 h4 => ⟨a, W, rfl, h1, h2, h3, h4⟩⟩
  obtain ⟨a, W0, rfl, ca0, dsc, rl0, FW⟩ := pm
  refine te_callN (Pm := fun v N' => ∃ b, v = .ref b.w ∧ WldAt K N' b W0 ∧ WldDs b W0) c5 hr (ja_cons (P := mD K (.list (qs.map rwD))) (j_var 1 hdL) ja_nil) (eLx.trans np.ext) (fun vs G' eG p => ?_) fun v3 Nw C3 np3 pm3 => ?_
  · obtain ⟨y, rfl, hy⟩ := la1 p
    exact ⟨y, qs, W0, rfl, hy, R2, FW, fun b N' h1 h2 => ⟨b, rfl, h1, h2⟩⟩
  obtain ⟨b, rfl, hw0, dsw⟩ := pm3
  refine ⟨_, _, rfl, ?_⟩
  -- the state in other words
  have fit0 := FW.fit R2
  have ca := ca0.congr (W2 := ⟨W0.us, W0.win, fun m => if m ∈ W0.mods then W0.cnt m else 0, W0.wd⟩) rfl rfl rfl fun m hm => if_pos hm
  have hw := hw0.congr2 (W2 := ⟨W0.us, W0.win, fun m => if m ∈ W0.mods then W0.cnt m else 0, W0.wd⟩) rfl rfl fun m hm => by
    unfold Wr.there
    show ((List.range (if m ∈ W0.mods then W0.cnt m else 0)).filter _).map _ = _
    rw [if_pos hm]
  have dsc' : CatDs a ⟨W0.us, W0.win, fun m => if m ∈ W0.mods then W0.cnt m else 0, W0.wd⟩ := dsc.of_us rfl
  have dsw' : WldDs b ⟨W0.us, W0.win, fun m => if m ∈ W0.mods then W0.cnt m else 0, W0.wd⟩ := dsw.of_us rfl
  have hmods : (⟨W0.us, W0.win, fun m => if m ∈ W0.mods then W0.cnt m else 0, W0.wd⟩ : Wr).mods ≠ [] := fun z => by
    have h1 : W0.mods = [] := z
    rw [FW.mods] at h1
    exact R2.some (List.map_eq_nil_iff.mp h1)
  generalize (⟨W0.us, W0.win, fun m => if m ∈ W0.mods then W0.cnt m else 0, W0.wd⟩ : Wr) = W at fit0 ca hw dsc' dsw' hmods
  have eCx : Ex C Cx := gr.ext
  have eNc3 : Ex Nc C3 := np.sub.trans np3.ext
  have ap1 : Apart Nc C := np.apart eCx
  have ap2 : Apart Nw C := np3.apart (eCx.trans np.ext)
  have ap3 : Apart Nc Nw := (np3.apart np.sub).flip np3.sub eNc3
  have S3 : Sit K Cc a b C (un Nc Nw) C3 12 W := ⟨⟨Nc, Nw, rfl, un_r eNc3 np3.sub, ap3, ca, rl0, hw⟩, un_sub eNc3 np3.sub, eCx.trans (np.ext.trans np3.ext), fun x o h => by
    rcases ap1 x o h with h1 | h1
    · rcases ap2 x o h with h2 | h2
      · refine .inl ?_
        unfold un
        rw [h1]; exact h2
      · exact .inr h2
    · exact .inr h1⟩
  generalize un Nc Nw = N3 at S3
  have allR : ∀ {N4 : Hp} {k4 : Nat} {W4 : Wr} {C4 : Hp} {vs4 : List V} {M4 : Hp}, Sit K Cc a b C N4 C4 k4 W4 → WOk W4 → Ex N4 M4 → (lCons (mIs (.ref a.c)) (lCons (mIs (.ref b.w)) lNil)).p vs4 M4 → preAll K Cc vs4 M4 (mIs (.bl true)) := fun S o g p => by
    obtain ⟨y, z, rfl, rfl, rfl⟩ := la2 p
    obtain ⟨h1, h2⟩ := S.two.catAt
    exact ⟨a, b, _, rfl, h1.mono g, h2.mono g, o, rfl⟩
  refine r_skip (N := N3) (jt_notF (jt_val (j_callG c6 hr hgd (ja_cons (P := mIs (.ref a.c)) (jv 3) (ja_cons (P := mIs (.ref b.w)) (jv 4) ja_nil)) fun vs M' g p => allR S3 fit0.ok g p))) S3.eN fun C4 e4 => ?_
  have S4 := S3.grow e4
  refine r_exprE (te_call (N := N3) (G := sing r (rngO r)) (Pm := fun v N' => ∃ W', W'.us = W.us ∧ Two K Cc a b 15 N' W' ∧ Fit W' 22 4 3) c7 hr (ja_cons (P := mIs (.ref r)) (jv 0) (ja_cons (P := mIs (.ref a.c)) (jv 3) (ja_cons (P := mIs (.ref b.w)) (jv 4) (ja_cons (P := mIs (.int 3)) j_int ja_nil)))) S4.eN (sing_ex (S4.eC _ _ hCr)) (S4.ap.of (sing_ex hCr)) (fun vs G' eG apG p => ?_) fun v5 N5 C5 mu5 pm5 => ?_)
  · obtain ⟨x1, x2, x3, x4, rfl, rfl, rfl, rfl, rfl⟩ := la4 p
    exact ⟨r, a, b, W, 12, 4, 0, 22, rfl, eG _ _ sing_same, S4.two, dsc', dsw', fit0, hmods, by decide, by decide, fun v N' W' h1 h2 h3 => ⟨W', h1, h2, h3⟩⟩
  obtain ⟨W5, hus5, two5, fit5⟩ := pm5
  have S5 := S4.mu mu5 two5
  refine r_skip (N := N5) (jt_notF (jt_val (j_callG c6 hr hgd (ja_cons (P := mIs (.ref a.c)) (jv 3) (ja_cons (P := mIs (.ref b.w)) (jv 4) ja_nil)) fun vs M' g p => allR S5 fit5.ok g p))) S5.eN fun C6 e6 => ?_
  have S6 := S5.grow e6
  have hmods5 : W5.mods ≠ [] := by unfold Wr.mods at *; rw [hus5]; exact hmods
  refine r_exprE (te_call (N := N5) (G := sing r (rngO r)) (Pm := fun v N' => ∃ W', W'.us = W5.us ∧ Two K Cc a b 16 N' W' ∧ Fit W' 23 5 3) c8 hr (ja_cons (P := mIs (.ref r)) (jv 0) (ja_cons (P := mIs (.ref a.c)) (jv 3) (ja_cons (P := mIs (.ref b.w)) (jv 4) ja_nil))) S6.eN (sing_ex (S6.eC _ _ hCr)) (S6.ap.of (sing_ex hCr)) (fun vs G' eG apG p => ?_) fun v7 N7 C7 mu7 pm7 => ?_)
  · obtain ⟨x1, x2, x3, rfl, rfl, rfl, rfl⟩ := la3 p
    exact ⟨r, a, b, W5, 15, 4, 3, 22, rfl, eG _ _ sing_same, S6.two, dsc'.of_us hus5, dsw'.of_us hus5, fit5, hmods5, by decide, by decide, by decide, by decide, fun v N' W' h1 h2 h3 => ⟨W', h1, h2, h3⟩⟩
  obtain ⟨W7, hus7', two7, fit7⟩ := pm7
  have hus7 : W7.us = W.us := hus7'.trans hus5
  have S7 := S6.mu mu7 two7
  refine r_skip (N := N7) (jt_notF (jt_val (j_callG c6 hr hgd (ja_cons (P := mIs (.ref a.c)) (jv 3) (ja_cons (P := mIs (.ref b.w)) (jv 4) ja_nil)) fun vs M' g p => allR S7 fit7.ok g p))) S7.eN fun C8 e8 => ?_
  have S8 := S7.grow e8
  have hmods7 : W7.mods ≠ [] := by unfold Wr.mods at *; rw [hus7]; exact hmods
  have dsc7 := dsc'.of_us hus7
  have dsw7 := dsw'.of_us hus7
  have hr8 := S8.eC _ _ hCr
  have hsl : (strsD W7.mods).length = W7.mods.length := List.length_map _
  have hfew : W7.mods.length ≤ 3 := by unfold Wr.mods; rw [List.length_map]; exact fit7.ok.few
  have hwU : WldAt K (un (sing r (rngO r)) N7) b W7 := S8.two.catAt.2.mono (un_r (sing_ex hr8) S8.eN)
  refine r_set 5 (N := un (sing r (rngO r)) N7) (P := mR K (· ∈ strsD W7.mods)) (j_call c2 hr (ja_cons (P := mIs (.ref r)) (jv 0) (ja_cons (P := mIs (.ref b.mo)) (j_wmo hwU (hu_of hr) (jv 4)) ja_nil)) fun vs M' g p => ?_) (un_sub (sing_ex hr8) S8.eN) hN fun v9 N9 C9 g9 p9 => ?_
  · obtain ⟨y, l', rfl, rfl, rfl⟩ := la2 p
    exact ⟨r, .ref b.mo, strsD W7.mods, rfl, g _ _ (un_l _ _ sing_same), (hwU.mono g).mod, fun z => hmods7 (List.map_eq_nil_iff.mp z), by omega, rfl⟩
  obtain ⟨d9, hd9, hp9⟩ := p9
  obtain ⟨m, hm, rfl⟩ := List.mem_map.mp hd9
  obtain rfl := dp_str hp9
  have S9 := S8.grow g9.ext
  obtain ⟨Nc9, Nw9, hN9, P9, hoff⟩ := S9.two.pair S9.eN
  have O9 : Off C Nc9 Nw9 C9 := hoff C S9.eC S9.ap
  have tl : ((W7.there m).map PyData.int).length = (W7.there m).length := List.length_map _
  have hthl : (W7.there m).length ≤ 10 := by
    unfold Wr.there
    rw [List.length_map]
    have h1 := List.length_filter_le (fun i : Nat => !decide ((i : Int) ∈ W7.wd m)) (List.range (W7.cnt m))
    rw [List.length_range] at h1
    have h2 := fit7.ok.cs m
    omega
  refine r_for (N := Nw9) (n := ((W7.there m).map PyData.int).length) (I := fun j => mR K fun d => ((W7.there m).map PyData.int)[j]? = some d) (pi_list pE) (ji_list ((j_wthM P9.hw hm (hu_of hr) (jv 4) (jv 5)).val (P9.hw.thr hm))) P9.eW (pg_name (i := 6) hN rfl (Or.inl rfl)) PassesOwn.never rfl
    (fun N1 i σ Cx => ∃ (Nc' : Hp) (W' : Wr) (o6 : Option V), Pair K Cc a b N7 C9 (16 + i) Nc' Nw9 Cx W' W7 ∧ Ex N1 Cx ∧ Apart Nc' N1 ∧ Off C Nc' Nw9 Cx ∧ W'.us = W7.us ∧ W'.win = W7.win ∧ (∀ n, n ≠ m → W'.there n = W7.there n) ∧ W'.there m = (W7.there m).drop i ∧ Fit W' 23 5 (3 + i) ∧ σ = [some (.ref r), some (.ref l), o2, some (.ref a.c), some (.ref b.w), some (.str m), o6])
    (fun N1 C1 g => ⟨Nc9, W7, none, P9.grow g.ext, g.sub, P9.ap.grow P9.eC g, O9.grow g.ext, rfl, rfl, fun _ _ => rfl, rfl, fit7, rfl⟩) (fun N1 i σ Cx ⟨_, _, _, _, h, _⟩ => h) (fun N1 i x σ Cx M4 C4 e1 hi hPx gM hx => ?_) fun N1 σ Cx e1 hPx => ?_
  · obtain ⟨Nc', W', o6, Pr, eN1, ap, O, hus, hwin, hoth, hth, ft, rfl⟩ := hPx
    obtain ⟨dd, hd1, hd2⟩ := hx
    have hi' : i < (W7.there m).length := by omega
    rw [List.getElem?_map, List.getElem?_eq_getElem hi'] at hd1
    have hd1' : PyData.int (W7.there m)[i] = dd := Option.some.inj hd1
    subst hd1'
    obtain rfl := dp_int hd2
    have hmem : (W7.there m)[i] ∈ W'.there m := by
      rw [hth]
      refine List.mem_of_getElem? (i := 0) ?_
      rw [List.getElem?_drop, Nat.add_zero]
      exact List.getElem?_eq_getElem hi'
    obtain ⟨q, hq, hq2, hq3⟩ := there_mem.mp hmem
    have hwl := ft.wdl m
    have P4 := Pr.grow gM.ext
    have hm' : m ∈ W'.mods := by unfold Wr.mods at *; rw [hus]; exact hm
    refine r_exprE (te_meth (N := Nc') (G := noHp) (Pm := fun v N' => CatAt K Cc N' a (wdW W' m q) ∧ RecLe N' a (16 + i + 1)) c9 T.cl hr (jv 3) Pr.ca.obj (catF_no a (by decide +kernel)) (ja_cons (P := mIs (.str m)) (jv 5) (ja_cons (P := mIs (.int (q : Int))) (J.is (jv 6) (by rw [hq])) ja_nil)) P4.eC no_ex apart_no (fun vs G' eG' apG p => ?_) fun v8 N8 C8 mu8 pm8 => ?_)
    · obtain ⟨y, l', rfl, rfl, rfl⟩ := la2 p
      exact ⟨a, W', m, q, 16 + i, rfl, Pr.ca, dsc7.of_us hus, ft.ok, hm', by rw [← hq]; exact hmem, Pr.rl, by omega, by omega, fun N' h1 h2 => ⟨h1, h2⟩⟩
    obtain ⟨P8, hO8⟩ := P4.cat mu8 pm8.1 pm8.2
    have ap4 := ap.grow Pr.eC gM
    refine r_nil ⟨N8, wdW W' m q, _, P8, gM.up.trans (ap4.ex mu8 gM.sub), (ap4.next mu8 gM.sub).of gM.up, hO8 _ (O.grow gM.ext), hus, hwin, fun n hn => (there_wd' hn).trans (hoth n hn), ?_, ft.wdr (by rw [← hq]; exact hmem), rfl⟩
    rw [there_wd, hth, ← hq]
    exact drop_erase (there_nodup W7 m) (List.getElem?_eq_getElem hi')
  · obtain ⟨Nc', W', o6, Pr, eN1, ap, O, hus, hwin, hoth, hth, ft, rfl⟩ := hPx
    rw [tl, List.drop_length] at hth
    obtain ⟨kT, hkT, hkl, hkv⟩ := Pr.hw.th
    have hww := Pr.hw.dd
    have hw1 : Cx b.w = some (.dK (wldF b)) := Pr.eW _ _ hww
    have hth1 : Cx b.th = some (.dK kT) := Pr.eW _ _ hkT
    have hne : b.w ≠ b.th := dsw7.tw.symm
    refine r_dputP (k := .inr m) (N := sing b.w (.dK (wldF b))) (P := mNew (sing b.w (.dK (wldF b))) (.lst [])) (hu_of hr) j_newL (j_dget (hu_of hr) (jv 4) j_str (by rw [← (wldG b).2.2.2]; exact DGet.k (k := .inr "there") sing_same)) (jv 5) (sing_ex hw1) (if_neg dsw7.tw) hth1 (by omega) fun v10 Nx Cy g hNx p10 => ?_
    obtain ⟨q, rfl, hq0, hq1⟩ := p10
    have hqC : Cx q = none := dom_new g hq1 hq0 fun _ z => by cases z
    have hthy : Cy b.th = some (.dK kT) := g.ext _ _ hth1
    have hqth : q ≠ b.th := fun z => by rw [z, hth1] at hqC; cases hqC
    have fr : ∀ x o, x ≠ b.th → Cy x = some o → (upd Cy b.th (.dK (putK kT (.inr m) (.ref q)))) x = some o := fun x o hx h => by rw [upd_ne hx]; exact h
    have hth10 : (upd Cy b.th (.dK (putK kT (.inr m) (.ref q)))) b.th = some (.dK (putK kT (.inr m) (.ref q))) := upd_same
    have hw10 : WldAt K (upd Cy b.th (.dK (putK kT (.inr m) (.ref q)))) { b with tl := fun n => if n = m then q else b.tl n } W' := (Pr.hw.mono (Pr.eW.trans g.ext)).chgTh dsw7 hm hthy hkl hkv fr hth10 (by rw [hth]; exact fr _ _ hqth (g.sub _ _ hq1)) hus hwin hoth
    have ca10 : CatAt K Cc (upd Cy b.th (.dK (putK kT (.inr m) (.ref q)))) a W' := Pr.ca.mono fun x o h => fr x o (fun z => by
      rcases Pr.ap _ _ hkT with h1 | h1
      · rw [z, h1] at h; cases h
      · exact isT_dK h1) (g.ext _ _ (Pr.eC _ _ h))
    have ext : Ex C (upd Cy b.th (.dK (putK kT (.inr m) (.ref q)))) := fun x o h => fr x o (fun z => by
      rw [z] at h
      have h2 := O.ex _ _ h
      rw [hth1] at h2
      cases h2
      rcases O.w _ _ h with h1 | h1
      · rw [hkT] at h1; cases h1
      · exact isT_dK h1) (g.ext _ _ (O.ex _ _ h))
    generalize upd Cy b.th (.dK (putK kT (.inr m) (.ref q))) = C10 at hw10 ca10 ext
    exact r_ret (N := C10) (P := mIs (.bl true)) (j_callG c6 hr hgd (ja_cons (P := mIs (.ref a.c)) (jv 3) (ja_cons (P := mIs (.ref b.w)) (jv 4) ja_nil)) fun vs M' g p => by
      obtain ⟨y, z, rfl, rfl, rfl⟩ := la2 p
      exact ⟨a, { b with tl := fun n => if n = m then q else b.tl n }, W', rfl, ca10.mono g, hw10.mono g, ft.ok, rfl⟩) (Ex.refl _) fun v N' C' g p => rt v M C' (Gr.of_ex eM (ext.trans g.ext)) p
end
end Gs

set_option Elab.async false
set_option linter.all false
set_option maxRecDepth 100000
set_option maxHeartbeats 4000000
/-! GsTop3: law. -/
namespace Gs
open PySem PySem.Spec PyProof.Rows L2 Evl
section
variable {P : Program} {w : World} {K : PySem.W.Frag} {mg : PySem.Str → Option Value} {base : Heap} {Cc : Addr}
def preLaw (K : PySem.W.Frag) (vs : List V) (N : Hp) (P : MP) : Prop := ∃ (a : Addr) (ns : List Int), vs = [.ref a] ∧ SqL K N a (ns.map V.int) ∧ ns.length ≤ 1000 ∧ P = mIs (.bl true)
theorem ok_law {f : Addr} {fd : FuncData} (F : L2.Fun K "law" "law" (top 69) f fd) (B : Bt mg) (c1 : Cl P w K mg base 1 "_law_rng" (preRng K)) (c2 : ClG P w K mg base 10 "_law_right" preRight) : FnG P w K mg base 11 f fd ["_law_script"] (spP (preLaw K)) := by
  refine fng_of (N := ["_law_script", "_law_k"]) F (by decide +kernel) (fun vs C Q E h => ?_) fun cdv A outer s C E vs Q hr hgd h => ?_
  · obtain ⟨N, Pm, _, ⟨a, ns, rfl, _⟩, _⟩ := h; rfl
  obtain ⟨M, Pm, eM, ⟨a, ns, rfl, hs, hl, rfl⟩, rt⟩ := h
  have hN : (["_law_script", "_law_k"] : List PySem.Str).Nodup := by decide
  have hd : Dp K M (.ref a) (.list (ns.map PyData.int)) := .lst hs (dps_ints ns)
  have hnl : (ns.map PyData.int).length = ns.length := List.length_map _
  refine r_ret (N := M) (P := mIs (.bl true)) (j_allT (idx := (List.range (max 1 (min ns.length 4))).filter fun _ => true) (E := fun _ d => d = .bool true) rfl ?_ (fun _ _ _ h => h) B.all) eM fun v N' C' g p => rt v N' C' g p
  refine j_lc (own := [("_law_k", 1)]) (I := fun j => mIs (.int (j : Nat))) (fun _ d => d = .bool true) (fun _ => true) 1 rfl hN (pi_range1 rfl B.range pA) (ji_range (n := max 1 (min ns.length 4)) (i := if (if (4 : Int) < (ns.length : Int) then (4 : Int) else (ns.length : Int)) > 1 then (if (4 : Int) < (ns.length : Int) then (4 : Int) else (ns.length : Int)) else 1) (ja_cons (j_cb (call_max2 rfl) B.max PyProof.Rows.Boot.«max» (ja_cons (P := mIs (.int 1)) j_int (ja_cons (P := mIs (.int (if (4 : Int) < (ns.length : Int) then (4 : Int) else (ns.length : Int)))) (j_cb (call_min2 rfl) B.min PyProof.Rows.Boot.«min» (ja_cons (P := mIs (.int (ns.length : Int))) ((j_lenL (j_var 0 (P := mD K (.list (ns.map PyData.int))) hd) B.len).is (by rw [hnl])) (ja_cons (P := mIs (.int 4)) j_int ja_nil)) fun vs M' g p => ?_) ja_nil)) fun vs M' g p => ?_) ja_nil) (by split <;> split <;> omega) (by omega)) (by omega) (blk_by (N := ["_law_script", "_law_k"]) (sc := defScope (top 69)) (by decide +kernel)) (fun s0 H0 C0 cl fp => pg_name hN rfl (Or.inl rfl)) (fun x => rfl) fun i x M2 hi eM2 hx => ⟨fun s0 H0 C0 cl fp => jts_nil, fun _ s0 H0 C0 cl fp => ?_⟩
  · obtain ⟨x, y, rfl, hx, hy⟩ := la2 p
    have hx' : x = V.int (ns.length : Int) := hx
    have hy' : y = V.int 4 := hy
    subst hx' hy'
    exact fun C0 eC Q q => ⟨_, _, rfl, q _ _ _ (Gr.refl eC) rfl⟩
  · obtain ⟨x, y, rfl, hx, hy⟩ := la2 p
    have hx' : x = V.int 1 := hx
    have hy' : y = V.int (if (4 : Int) < (ns.length : Int) then (4 : Int) else (ns.length : Int)) := hy
    subst hx' hy'
    exact fun C0 eC Q q => ⟨_, _, rfl, q _ _ _ (Gr.refl eC) rfl⟩
  · have hx' : x = V.int (i : Nat) := hx
    subst hx'
    refine J.imp (P := mIs (.bl true)) (j_callG c2 (by exact hr) (by exact hgd) (ja_cons (P := mRng M2) (j_call c1 (by exact hr) (ja_cons (P := mD K (.list (ns.map PyData.int))) (j_var 0 (dp_mono eM2 hd)) (ja_cons (P := mIs (.int (i : Nat))) (jv 1) ja_nil)) fun vs M' g p => ?_) ja_nil) fun vs M' g p => ?_) fun y M3 g p => ?_
    · obtain ⟨y, z, rfl, hy, rfl⟩ := la2 p
      exact ⟨y, i, ns, rfl, by omega, by omega, hy, fun v H ⟨l, h1, h2, h3⟩ => ⟨l, h1, fresh_back g h2, h3⟩⟩
    · obtain ⟨y, rfl, l, rfl, _, h3⟩ := la1 p
      exact ⟨l, rfl, h3, rfl⟩
    · have p' : y = V.bl true := p
      subst p'
      exact ⟨_, rfl, .bl true⟩
end
end Gs

set_option Elab.async false
set_option linter.all false
set_option maxRecDepth 100000
set_option maxHeartbeats 4000000
/-! GsHd: the head's facts by names; the law's def over them. -/
namespace Gs
open PySem PySem.Spec PyProof.Rows L2 Evl
def dd (x : PySem.Str) (st : Stmt) : He.DefD := ⟨(x, none), x, x, defArgs st, defBody st, defScope st, [], []⟩
def md (C m q : PySem.Str) (st : Stmt) : He.DefD := ⟨(C, some m), m, q, defArgs st, defBody st, defScope st, [], []⟩
theorem fun_of {K : PySem.W.Frag} {x qual : PySem.Str} {st : Stmt} {kws : List (PySem.Str × V)} {f : Addr} {fd : FuncData} (F : L2.FunD K x qual (defArgs st) (defBody st) (defScope st) [] kws f fd) : L2.Fun K x qual st f fd := by
  obtain ⟨oc, od, dV, kV, doc, pm, an, cdv, ct, osl, e, lk, hc, hd, _⟩ := F.ex
  have hd' : dV = .none := by
    rcases hd with ⟨_, h⟩ | ⟨h, _⟩
    · exact h
    · exact absurd rfl h
  subst hd'
  exact ⟨⟨oc, od, kV, doc, pm, an, cdv, ct, osl, e, lk, hc⟩, F.kp⟩
def fa0 : List He.Fa := [.glo "is_integer", .glo "is_name", .glo "is_version", .glo "is_window", .glo "require_window", .glo "reaches", .glo "rises", .glo "is_demand", .glo "require_demand", .glo "settled_version"]
def fa1 : List He.Fa := [.glo "settled", .glo "first_reaching", .glo "demands_of_version", .glo "following", .glo "is_row_of_names", .glo "check_uses", .glo "check_new_windows", .glo "require_module", .glo "check_rows", .glo "catalog_of"]
def fa2 : List He.Fa := [.glo "_law_rng", .glo "_law_draw", .glo "_law_choice", .glo "_law_shuffled", .glo "_law_name", .glo "_law_names", .glo "_law_windows", .glo "_law_rows", .glo "_law_world", .glo "_law_withdrawn"]
def fa3 : List He.Fa := [.glo "_law_contains", .glo "_law_conflicts", .glo "_law_states", .glo "_law_following", .glo "_law_told", .glo "_law_meets", .glo "_law_demand_right", .glo "_law_all_right", .glo "_law_published", .glo "_law_right"]
def fa4 : List He.Fa := [.glo "law", .glo "Catalog", .glo "CannotMeet", .glo "Refused", .free "len", .free "isinstance", .free "int", .free "bool", .free "str", .free "tuple"]
def fa5 : List He.Fa := [.free "list", .free "dict", .free "all", .free "sum", .free "zip", .free "range", .free "enumerate", .free "repr", .free "max", .free "min"]
def fa6 : List He.Fa := [.free "abs", .free "divmod", .int "MOST_MODULES" 12, .int "MOST_USES" 40, .int "MOST_VERSIONS" 16, .int "MAX_LETTERS" 8, .str "LETTERS" letters, .cls "Catalog", .noat "Catalog" "use_table", .noat "Catalog" "window_table"]
def fa7 : List He.Fa := [.noat "Catalog" "count_table", .noat "Catalog" "withdrawn_table", .noat "Catalog" "record", .meth "Catalog" "modules", .meth "Catalog" "uses", .meth "Catalog" "users", .meth "Catalog" "versions", .meth "Catalog" "publish", .meth "Catalog" "withdraw", .meth "Catalog" "window"]
def fa8 : List He.Fa := [.meth "Catalog" "is_available", .meth "Catalog" "available", .mkr "Catalog"]
def fa : List He.Fa := fa0 ++ (fa1 ++ (fa2 ++ (fa3 ++ (fa4 ++ (fa5 ++ (fa6 ++ (fa7 ++ (fa8))))))))
def fn0 : List He.DefD := [dd "is_integer" (top 21), dd "is_name" (top 22), dd "is_version" (top 23), dd "is_window" (top 25), dd "require_window" (top 26), dd "reaches" (top 27), dd "rises" (top 28), dd "is_demand" (top 30), dd "require_demand" (top 31), dd "settled_version" (top 32)]
def fn1 : List He.DefD := [dd "settled" (top 33), dd "first_reaching" (top 34), dd "demands_of_version" (top 35), dd "following" (top 36), dd "is_row_of_names" (top 41), dd "check_uses" (top 42), dd "check_new_windows" (top 43), dd "require_module" (top 45), dd "check_rows" (top 46), dd "catalog_of" (top 47)]
def fn2 : List He.DefD := [dd "_law_rng" (top 49), dd "_law_draw" (top 50), dd "_law_choice" (top 51), dd "_law_shuffled" (top 52), dd "_law_name" (top 53), dd "_law_names" (top 54), dd "_law_windows" (top 55), dd "_law_rows" (top 56), dd "_law_world" (top 57), dd "_law_withdrawn" (top 58)]
def fn3 : List He.DefD := [dd "_law_contains" (top 59), dd "_law_conflicts" (top 60), dd "_law_states" (top 61), dd "_law_following" (top 62), dd "_law_told" (top 63), dd "_law_meets" (top 64), dd "_law_demand_right" (top 65), dd "_law_all_right" (top 66), dd "_law_published" (top 67), dd "_law_right" (top 68)]
def fn4 : List He.DefD := [dd "law" (top 69), md "Catalog" "__init__" "Catalog.__init__" (inClass (top 44) 0), md "Catalog" "modules" "Catalog.modules" (inClass (top 44) 1), md "Catalog" "uses" "Catalog.uses" (inClass (top 44) 2), md "Catalog" "users" "Catalog.users" (inClass (top 44) 3), md "Catalog" "versions" "Catalog.versions" (inClass (top 44) 4), md "Catalog" "publish" "Catalog.publish" (inClass (top 44) 5), md "Catalog" "withdraw" "Catalog.withdraw" (inClass (top 44) 6), md "Catalog" "window" "Catalog.window" (inClass (top 44) 7), md "Catalog" "is_available" "Catalog.is_available" (inClass (top 44) 8)]
def fn5 : List He.DefD := [md "Catalog" "available" "Catalog.available" (inClass (top 44) 9), md "CannotMeet" "__init__" "CannotMeet.__init__" (inClass (top 15) 0)]
def fn : List He.DefD := fn0 ++ (fn1 ++ (fn2 ++ (fn3 ++ (fn4 ++ (fn5)))))
/-- what else is looked at: the exception CannotMeet -/
def isRtInit : Option PySem.W.CFound → Bool
  | some (.val (.builtin id)) => decide (id = "RuntimeError.__init__")
  | _ => false
theorem isRtInit_ok {o : Option PySem.W.CFound} (h : isRtInit o = true) : o = some (.val (.builtin "RuntimeError.__init__")) := by
  unfold isRtInit at h
  split at h
  · rw [of_decide_eq_true h]
  · cases h
def exB (K : PySem.W.Frag) (M R : Addr) : List Bool := [
  PySem.W.excInitIn K M rtB "RuntimeError.__new__", PySem.W.excOver K M rtB, PySem.W.hasDictIn K M, He.eqO (PySem.W.findIn K (.ref M) "__setattr__") (some (some (.builtin "object.__setattr__"))),
  decide (PySem.W.subIn K (.ref M) (.type "BaseException") = some true), decide (PySem.W.typeIn K (.ref M) = some (.type "type")), PySem.W.keepIn K (.ref M),
  He.eqO (PySem.W.findIn K (.ref M) "__init__") (some (some (.ref (He.ma K M "__init__")))), decide (PySem.W.typeIn K (.ref (He.ma K M "__init__")) = some (.type "function")),
  PySem.W.readsIn K R (.type "type"), He.eqO (PySem.W.specialIn K (.ref R) "__getattribute__") (some (some (.builtin "type.__getattribute__"))), isRtInit (PySem.W.findCls K (.ref R) (.type "type") "__init__"),
  He.eqO (PySem.W.findIn K (.ref M) "module") (some none), He.eqO (PySem.W.findIn K (.ref M) "version") (some none), decide (PySem.W.exmOne K (.ref M) (.ref M) = some true),
  He.eqO (PySem.W.findIn K (.ref M) "__getattribute__") (some (some (.builtin "BaseException.__getattribute__"))), He.eqO (PySem.W.findIn K (.ref M) "__getattr__") (some none), He.eqO (PySem.W.findIn K (.ref M) "__class__") (some (some (.builtin "object.__class__"))),
  He.eqO (PySem.W.specialIn K (.builtin "object.__class__") "__get__") (some (some (.builtin "getset_descriptor.__get__"))), decide (PySem.W.takesIn K (.builtin "object.__class__") = some true), decide (PySem.W.mroIn K M (.type "object") = some true),
  L2.xfB K M, decide (PySem.W.kitOne K (.ref M) (.ref R) = some true)]
def ex (K : PySem.W.Frag) : Bool := (exB K (He.ga K "CannotMeet") (He.ga K "Refused")).all id
theorem ex_at {K : PySem.W.Frag} (h : ex K = true) (i : Nat) {b : Bool} (e : (exB K (He.ga K "CannotMeet") (He.ga K "Refused"))[i]? = some b := by rfl) : b = true := List.all_eq_true.mp h b (List.mem_of_getElem? e)
/-- what is told of the head -/
structure Says (K : PySem.W.Frag) : Prop where
  d : He.SaysD fa fn K
  e : ex K = true
section
variable {K : PySem.W.Frag} {h : Heap} {mg : PySem.Str → Option Value}
theorem Says.df (c : Says K) (X : K.In h) (G : h.Ns mainGlobals mg) (i j : Nat) {x : PySem.Str} {st : Stmt} (hi : fn[i]? = some (dd x st) := by rfl) (hj : fa[j]? = some (.glo x) := by rfl) : DF K mg x st := by
  obtain ⟨fd, F⟩ := c.d.def_ i hi
  exact ⟨_, fd, fun_of F, He.glo_ok X G (c.d.fact j hj)⟩
theorem Says.mf (c : Says K) (i j : Nat) {m q : PySem.Str} {st : Stmt} (hi : fn[i]? = some (md "Catalog" m q st) := by rfl) (hj : fa[j]? = some (.meth "Catalog" m) := by rfl) : MF K (He.ga K "Catalog") m q st := by
  obtain ⟨fd, F⟩ := c.d.def_ i hi
  exact ⟨_, fd, fun_of F, He.meth_ok (c.d.fact j hj)⟩
theorem Says.bt (c : Says K) (X : K.In h) (G : h.Ns mainGlobals mg) : Bt mg := ⟨He.free_ok X G (c.d.fact 44 (f := .free "len")), He.free_ok X G (c.d.fact 45 (f := .free "isinstance")), He.free_ok X G (c.d.fact 46 (f := .free "int")), He.free_ok X G (c.d.fact 47 (f := .free "bool")), He.free_ok X G (c.d.fact 48 (f := .free "str")), He.free_ok X G (c.d.fact 49 (f := .free "tuple")), He.free_ok X G (c.d.fact 50 (f := .free "list")), He.free_ok X G (c.d.fact 51 (f := .free "dict")), He.free_ok X G (c.d.fact 52 (f := .free "all")), He.free_ok X G (c.d.fact 53 (f := .free "sum")), He.free_ok X G (c.d.fact 54 (f := .free "zip")), He.free_ok X G (c.d.fact 55 (f := .free "range")), He.free_ok X G (c.d.fact 56 (f := .free "enumerate")), He.free_ok X G (c.d.fact 57 (f := .free "repr")), He.free_ok X G (c.d.fact 58 (f := .free "max")), He.free_ok X G (c.d.fact 59 (f := .free "min")), He.free_ok X G (c.d.fact 60 (f := .free "abs")), He.free_ok X G (c.d.fact 61 (f := .free "divmod"))⟩
theorem Says.cat (c : Says K) : CatC K (He.ga K "Catalog") := ⟨He.cls_ok (c.d.fact 67 (f := .cls "Catalog")), He.noat_ok (c.d.fact 68 (f := .noat "Catalog" "use_table")), He.noat_ok (c.d.fact 69 (f := .noat "Catalog" "window_table")), He.noat_ok (c.d.fact 70 (f := .noat "Catalog" "count_table")), He.noat_ok (c.d.fact 71 (f := .noat "Catalog" "withdrawn_table")), He.noat_ok (c.d.fact 72 (f := .noat "Catalog" "record"))⟩
theorem Says.ext (c : Says K) (X : K.In h) (G : h.Ns mainGlobals mg) : ExT K mg (He.ga K "CannotMeet") (He.ga K "Refused") := by
  obtain ⟨fd, F⟩ := c.d.def_ 51 (d := md "CannotMeet" "__init__" "CannotMeet.__init__" (inClass (top 15) 0)) rfl
  exact ⟨⟨ex_at c.e 0, ex_at c.e 1, ex_at c.e 2, He.eqO_ok (ex_at c.e 3), of_decide_eq_true (ex_at c.e 4), of_decide_eq_true (ex_at c.e 5), ex_at c.e 6⟩,
    He.glo_ok X G (c.d.fact 42 (f := .glo "CannotMeet")), He.glo_ok X G (c.d.fact 43 (f := .glo "Refused")), ⟨_, fd, fun_of F, He.eqO_ok (ex_at c.e 7), of_decide_eq_true (ex_at c.e 8)⟩,
    ex_at c.e 9, He.eqO_ok (ex_at c.e 10), isRtInit_ok (ex_at c.e 11), He.eqO_ok (ex_at c.e 12), He.eqO_ok (ex_at c.e 13), of_decide_eq_true (ex_at c.e 14),
    ⟨He.eqO_ok (ex_at c.e 15), He.eqO_ok (ex_at c.e 16), of_decide_eq_true (ex_at c.e 4), ex_at c.e 2, He.eqO_ok (ex_at c.e 17), He.eqO_ok (ex_at c.e 18), of_decide_eq_true (ex_at c.e 19), of_decide_eq_true (ex_at c.e 20)⟩,
    L2.xfB_ok (ex_at c.e 21), of_decide_eq_true (ex_at c.e 22)⟩
theorem facts {P : Program} {w : World} {f : Addr} (X : K.In h) (G : h.Ns mainGlobals mg) (hfa : mg ("law" : PySem.Str) = some (.ref f)) (c : Says K) :
    ∃ fd : FuncData, (∀ (s : Shared) (v : Value), BindsTo s fd ⟨[v], []⟩ [("_law_script", v)]) ∧ ∀ base : Heap, K.In base → base.Ns mainGlobals mg → FnG P w K mg base 11 f fd ["_law_script"] (spP (preLaw K)) := by
  have B := c.bt X G
  have T := c.cat
  have E := c.ext X G
  obtain ⟨fdL, FL⟩ := c.d.def_ 40 (d := dd "law" (top 69)) rfl
  have e := hfa.symm.trans (He.glo_ok X G (c.d.fact 40 (f := .glo "law")))
  cases e
  have bL := FunD.bindsA (ps := ["_law_script"]) FL fun _ _ _ _ _ _ us hl => match us, hl with | [_], _ => rfl
  refine ⟨fdL, fun s v => bL s [v] rfl, fun base _ _ => ?_⟩
  obtain ⟨fdF, FF⟩ := c.d.def_ 13 (d := dd "following" (top 36)) rfl
  have mF : mg "following" = some (.ref (He.ga K "following")) := He.glo_ok X G (c.d.fact 13 (f := .glo "following"))
  obtain ⟨fdI, FI⟩ := c.d.def_ 41 (d := md "Catalog" "__init__" "Catalog.__init__" (inClass (top 44) 0)) rfl
  have mC : mg "Catalog" = some (.ref (He.ga K "Catalog")) := He.glo_ok X G (c.d.fact 41 (f := .glo "Catalog"))
  have hMk : Mk K (He.ga K "Catalog") (He.ma K (He.ga K "Catalog") "__init__") := He.mkr_ok (c.d.fact 82 (f := .mkr "Catalog"))
  have FQ : L2.Fun K "following" "following" (top 36) _ fdF := fun_of FF
  have FR : L2.Fun K "__init__" "Catalog.__init__" (inClass (top 44) 0) _ fdI := fun_of FI
  have bF : Binds K fdF ["catalog", "demand"] [] := FQ.binds fun _ _ _ _ _ _ us hl => match us, hl with | [_, _], _ => rfl
  have bI : Binds K fdI ["self", "uses"] [] := FR.binds fun _ _ _ _ _ _ us hl => match us, hl with | [_, _], _ => rfl
  have hS : GS mg "LETTERS" letters := He.str_ok X G (c.d.fact 66 (f := .str "LETTERS" letters))
  have reaches := ok_reaches (P := P) (w := w) (K := K) (mg := mg) (base := base) (c.df X G 5 5)
  have isInt := ok_is_integer (P := P) (w := w) (K := K) (mg := mg) (base := base) (c.df X G 0 0) B
  have isVer := ok_is_version (P := P) (w := w) (K := K) (mg := mg) (base := base) (c.df X G 2 2) isInt
  have isName := ok_is_name (P := P) (w := w) (K := K) (mg := mg) (base := base) (c.df X G 1 1) B hS (He.int_ok X G (c.d.fact 65 (f := .int "MAX_LETTERS" 8)))
  have isWin := ok_is_window (P := P) (w := w) (K := K) (mg := mg) (base := base) (c.df X G 3 3) B isVer
  have reqWin := ok_require_window (P := P) (w := w) (K := K) (mg := mg) (base := base) (c.df X G 4 4) isWin
  have rises := ok_rises (P := P) (w := w) (K := K) (mg := mg) (base := base) (c.df X G 6 6) reqWin reaches
  have reqMod := ok_require_module (P := P) (w := w) (K := K) (mg := mg) (base := base) (Cc := He.ga K "Catalog") (c.df X G 17 17) B T
  have modules := ok_modules (P := P) (w := w) (K := K) (mg := mg) (base := base) (Cc := He.ga K "Catalog") (c.mf 42 73) B T
  have uses := ok_uses (P := P) (w := w) (K := K) (mg := mg) (base := base) (Cc := He.ga K "Catalog") (c.mf 43 74) B T reqMod
  have versions := ok_versions (P := P) (w := w) (K := K) (mg := mg) (base := base) (Cc := He.ga K "Catalog") (c.mf 45 76) T reqMod
  have users := ok_users (P := P) (w := w) (K := K) (mg := mg) (base := base) (Cc := He.ga K "Catalog") (c.mf 44 75) B T reqMod
  have window := ok_window (P := P) (w := w) (K := K) (mg := mg) (base := base) (Cc := He.ga K "Catalog") (c.mf 48 79) T reqMod isVer
  have available := ok_available (P := P) (w := w) (K := K) (mg := mg) (base := base) (Cc := He.ga K "Catalog") (c.mf 50 81) B T reqMod
  have isAvail := ok_is_available (P := P) (w := w) (K := K) (mg := mg) (base := base) (Cc := He.ga K "Catalog") (c.mf 49 80) T reqMod isVer
  have isDem := ok_is_demand (P := P) (w := w) (K := K) (mg := mg) (base := base) (Cc := He.ga K "Catalog") (c.df X G 7 7) B T modules isVer
  have reqDem := ok_require_demand (P := P) (w := w) (K := K) (mg := mg) (base := base) (Cc := He.ga K "Catalog") (c.df X G 8 8) isDem
  have settV := ok_settled_version (P := P) (w := w) (K := K) (mg := mg) (base := base) (Cc := He.ga K "Catalog") (c.df X G 9 9) T available
  have sett := ok_settled (P := P) (w := w) (K := K) (mg := mg) (base := base) (Cc := He.ga K "Catalog") (c.df X G 10 10) reqDem settV
  have first := ok_first_reaching (P := P) (w := w) (K := K) (mg := mg) (base := base) (Cc := He.ga K "Catalog") (c.df X G 11 11) B T versions window reaches
  have demV := ok_demands_of_version (P := P) (w := w) (K := K) (mg := mg) (base := base) (Cc := He.ga K "Catalog") (c.df X G 12 12) B T uses window users first
  have fol := ok_following (P := P) (w := w) (K := K) (mg := mg) (base := base) (Cc := He.ga K "Catalog") (CM := He.ga K "CannotMeet") (CR := He.ga K "Refused") FQ E sett demV
  have cont := ok_contains (P := P) (w := w) (K := K) (mg := mg) (base := base) (c.df X G 30 30)
  have conf := ok_conflicts (P := P) (w := w) (K := K) (mg := mg) (base := base) (c.df X G 31 31) cont
  have states := ok_states (P := P) (w := w) (K := K) (mg := mg) (base := base) (c.df X G 32 32) B conf
  have lfol := ok_law_following (P := P) (w := w) (K := K) (mg := mg) (base := base) (c.df X G 33 33) B
  have told := ok_told (P := P) (w := w) (K := K) (mg := mg) (base := base) (Cc := He.ga K "Catalog") (c.df X G 34 34) B E fol mF FF.kp bF
  have meets := ok_meets (P := P) (w := w) (K := K) (mg := mg) (base := base) (c.df X G 35 35)
  have dr := ok_demand_right (P := P) (w := w) (K := K) (mg := mg) (base := base) (Cc := He.ga K "Catalog") (c.df X G 36 36) B sett isDem lfol told meets fol mF FF.kp bF
  have allR := ok_all_right (P := P) (w := w) (K := K) (mg := mg) (base := base) (Cc := He.ga K "Catalog") (c.df X G 37 37) B T states versions dr
  have draw := ok_draw (P := P) (w := w) (K := K) (mg := mg) (base := base) (c.df X G 21 21) B
  have choice := ok_choice (P := P) (w := w) (K := K) (mg := mg) (base := base) (c.df X G 22 22) B draw
  have rng := ok_rng (P := P) (w := w) (K := K) (mg := mg) (base := base) (c.df X G 20 20) B
  have shuf := ok_shuffled (P := P) (w := w) (K := K) (mg := mg) (base := base) (c.df X G 23 23) B draw
  have name := ok_name (P := P) (w := w) (K := K) (mg := mg) (base := base) (c.df X G 24 24) B draw
  have names := ok_names (P := P) (w := w) (K := K) (mg := mg) (base := base) (c.df X G 25 25) B name
  have wins := ok_windows (P := P) (w := w) (K := K) (mg := mg) (base := base) (c.df X G 26 26) B draw
  have rows := ok_rows (P := P) (w := w) (K := K) (mg := mg) (base := base) (c.df X G 27 27) B draw shuf names wins
  have rowN := ok_rowN (P := P) (w := w) (K := K) (mg := mg) (base := base) (c.df X G 14 14) B isName
  have newW := ok_newW (P := P) (w := w) (K := K) (mg := mg) (base := base) (c.df X G 16 16) B isWin
  have chkU := ok_chkU (P := P) (w := w) (K := K) (mg := mg) (base := base) (c.df X G 15 15) B (He.int_ok X G (c.d.fact 62 (f := .int "MOST_MODULES" 12))) (He.int_ok X G (c.d.fact 63 (f := .int "MOST_USES" 40))) isName rowN
  have init := ok_init (P := P) (w := w) (K := K) (mg := mg) (base := base) (Cc := He.ga K "Catalog") FR B T chkU
  have publish := ok_publish (P := P) (w := w) (K := K) (mg := mg) (base := base) (Cc := He.ga K "Catalog") (c.mf 46 77) B T (He.int_ok X G (c.d.fact 64 (f := .int "MOST_VERSIONS" 16))) reqMod newW rises
  have withdraw := ok_withdraw (P := P) (w := w) (K := K) (mg := mg) (base := base) (Cc := He.ga K "Catalog") (c.mf 47 78) T isAvail
  have chkR := ok_chkR (P := P) (w := w) (K := K) (mg := mg) (base := base) (c.df X G 18 18) B
  have catOf := ok_catOf (P := P) (w := w) (K := K) (mg := mg) (base := base) (Cc := He.ga K "Catalog") (c.df X G 19 19) B T mC hMk init bI chkR publish
  have world := ok_world (P := P) (w := w) (K := K) (mg := mg) (base := base) (c.df X G 28 28) B
  have wdn := ok_withdrawn (P := P) (w := w) (K := K) (mg := mg) (base := base) (Cc := He.ga K "Catalog") (c.df X G 29 29) B T draw choice withdraw
  have pbl := ok_published (P := P) (w := w) (K := K) (mg := mg) (base := base) (Cc := He.ga K "Catalog") (c.df X G 38 38) B T draw choice publish
  have right := ok_right (P := P) (w := w) (K := K) (mg := mg) (base := base) (Cc := He.ga K "Catalog") (c.df X G 39 39) B T draw choice rows catOf world allR wdn pbl withdraw
  exact ok_law (fun_of FL) B rng right
end
end Gs

set_option Elab.async false
set_option linter.all false
set_option maxRecDepth 100000
set_option maxHeartbeats 0
/-! GsRun: the run of the top. -/
namespace Gs
open PySem PySem.Spec PyProof.Rows L2
abbrev R : PySem.W.OpenRow := PySem.W.OpenLaw.row PySem.Challenge.rw_groupsteps_k34_whole_each_demand_is_a_mu
abbrev AlM : Type := He.AlD × Bool
def obsM (g : Addr → Option Obj) : AlM := (He.obsD fa fn (He.frG g (He.asD g 4 ++ [cStatics])), ex (He.frG g (He.asD g 4 ++ [cStatics])))
def hk : PySem.W.Hook where
  α := AlM
  obs := fun s => obsM s.heap.get?
  val := fun _ => (He.valD fn, true)
  says := fun _ h => ∃ K : PySem.W.Frag, K.In h ∧ Says K
  of := fun _ _ e => ⟨_, He.frG_in, congrArg Prod.fst e, congrArg Prod.snd e⟩
  keeps := fun _ _ _ ⟨K, hK, c⟩ k => ⟨K, PySem.W.Frag.In.keeps hK k, c⟩
def ob (s : PySem.W.SharedT) : AlM := obsM (HandSHeadRun.getT s)
theorem ob_eq (s : PySem.W.SharedT) : ob s = hk.obs s.abs := by
  have e : HandSHeadRun.getT s = s.abs.heap.get? := funext (HandSHeadRun.getT_eq s)
  show obsM (HandSHeadRun.getT s) = obsM s.abs.heap.get?
  rw [e]
def names : List PySem.Str := (["_wall", "GroupError", "InvalidName", "InvalidWindow", "InvalidWindows", "InvalidUses", "InvalidRows", "InvalidDemand", "Missing", "UnknownModule", "UnknownUse", "UnknownVersion", "Refused", "NotRising"] : List PySem.Str) ++ (["CannotMeet", "LimitReached", "TooMany", "LETTERS", "MAX_LETTERS", "is_integer", "is_name", "is_version", "is_window", "require_window", "reaches", "rises", "is_demand", "require_demand"] : List PySem.Str) ++ (["settled_version", "settled", "first_reaching", "demands_of_version", "following", "MOST_MODULES", "MOST_VERSIONS", "MOST_USES", "is_row_of_names", "check_uses", "check_new_windows", "Catalog", "require_module", "check_rows"] : List PySem.Str) ++ (["catalog_of", "_law_rng", "_law_draw", "_law_choice", "_law_shuffled", "_law_name", "_law_names", "_law_windows", "_law_rows", "_law_world", "_law_withdrawn", "_law_contains", "_law_conflicts", "_law_states"] : List PySem.Str) ++ (["_law_following", "_law_told", "_law_meets", "_law_demand_right", "_law_all_right", "_law_published", "_law_right"] : List PySem.Str)
open HandSHeadRun in
theorem t1 (w : World) (os : OsState) : (endF (stepQ (denQ tabQ) R.prog w) 8000 R.prog w os).isSome = true := by kernel_rfl
open HandSHeadRun in
theorem t2 (w : World) (os : OsState) : (endF (stepQ (denQ tabQ) R.prog w) 8000 R.prog w os).map (fun s => looksF R.prog (PySem.W.boot_heap w.params) s.abs) = some true := by kernel_rfl
open HandSHeadRun in
theorem t3 (w : World) (os : OsState) : (endF (stepQ (denQ tabQ) R.prog w) 8000 R.prog w os).map (fun s => ob s) = some (hk.val w) := by kernel_rfl
open HandSHeadRun in
theorem t4 (w : World) (os : OsState) : (endF (stepQ (denQ tabQ) R.prog w) 8000 R.prog w os).map (fun s => seenQ (PySem.W.view R.prog [69]) names (importedModules R.prog.main.body) (fun s => PySem.W.xlAt (PySem.W.view R.prog [69]) [] s && PySem.W.recOk R.toRowW.records s) s.abs) = some (PySem.W.openGood (PySem.W.view R.prog [69]) names) := by kernel_rfl
theorem run (w : World) : HandSHeadRun.RunEq R (PySem.W.view R.prog [69]) hk ob 8000 names w := by
  intro os
  obtain ⟨s, hs⟩ := Option.isSome_iff_exists.mp (t1 w os)
  have h2 := t2 w os
  have h3 := t3 w os
  have h4 := t4 w os
  rw [hs] at h2 h3 h4 ⊢
  rw [Option.map_some] at h2 h3 h4 ⊢
  rw [Option.some.inj h2, Option.some.inj h3, Option.some.inj h4]
end Gs

set_option Elab.async false
set_option linter.all false
set_option maxRecDepth 100000
set_option maxHeartbeats 0
/-! GsEnd: the law holds. -/
open PySem PySem.W PySem.Calls PyProof.Rows
theorem PySem.Challenge.cw_groupsteps_k34_whole_each_demand_is_a_mu_holds : PySem.Challenge.rw_groupsteps_k34_whole_each_demand_is_a_mu.Holds := by
  w_on; o_law
  refine HandSHeadRun.head_any (r := Gs.R) (q := view Gs.R.prog [69]) (H := Gs.hk) (ob := Gs.ob) (M := 8000) (loose := Gs.names) (d := HandSHeadRun.topDef Gs.R.prog 69) (kwd := []) Gs.ob_eq
    (by kernel_rfl) (fun s => by kernel_rfl) Gs.run (by kernel_rfl) (by kernel_rfl) (by kernel_rfl) (by rfl) (by first | assumption | decide +kernel) (by decide +kernel) ⟨rfl, rfl, rfl, rfl, rfl, by decide +kernel⟩ ?hw ?hc
  case hw => w_witness2
  case hc =>
    refine Gs.walk_ofG (l := PySem.Challenge.rw_groupsteps_k34_whole_each_demand_is_a_mu) (n := 63) (k := 11) (x := "_law_script") rfl (by decide) (by kernel_rfl) ⟨rfl, by decide, by decide⟩ ?F
    intro w mg fa h Y G hmg0
    obtain ⟨K, KX, c⟩ := Y
    have hmg : mg ("law" : PySem.Str) = some (.ref fa) := by
      have e : (HandSHeadRun.topDef Gs.R.prog 69).name = ("law" : PySem.Str) := by kernel_rfl
      rw [← e]
      exact hmg0
    obtain ⟨fd, hb, hF⟩ := Gs.facts (P := PySem.Challenge.rw_groupsteps_k34_whole_each_demand_is_a_mu.prog) (w := w) KX G hmg c
    exact ⟨K, fd, Gs.spP (Gs.preLaw K), KX, hb, fun H a ns hl _ hS => ⟨H, _, fun _ _ e => e, ⟨a, ns, rfl, hS, by omega, rfl⟩, fun v N' C' g p => p⟩, hF⟩

