import PyProof.Rows.All
import Wide.All
import OpenK.AllK
import Wide.FinOn
import KE.KStateDown
import Lean
import HandS.ForMost
import HandS.DictComp
import HandS.Defaults
import HandS.IsInst
import HandS.Property
import HandS.Flow
import HandS.SetKeys
import HandS.StrMore
import HandS.Small
import HandS.More
import HandS.Sort
import HandS.Head0
import HandS.Head1
import HandS.Head2
import HandS.HeadHook1
import HandS.HeadHook2
import HandS.Replace
import HandS.Strs
import HandS.OwnEq
import HandS.DeepEq
import KE.KOpsOwn
import OpenK.KOps
import PyProof.InstEq
import HandS.SortOrd
import HandS.SortRule
import KE.KSortTupAny
import PyProof.ReprRoads
import PyProof.ReprLen
import PyProof.StrLawsRepr
import PyProof.SumAnyB
import PyProof.DictUpdate
import PySem.Challenge.RW_endchecks_k25_whole_parts_apart
/-! K0 -/
set_option Elab.async false
set_option linter.all false
set_option maxRecDepth 100000
set_option maxHeartbeats 4000000
/-! K0: what an expression is worth over a part G of the heap that is known (own judgements over the layer's readings). -/
namespace K25
open PySem PySem.Spec PyProof.Rows L2

/-! ### heaps -/
/-- G is known: H tells what G tells (a dict perhaps locked) -/
def Sub (G H : Hp) : Prop := ∀ a o, G a = some o → H a = some o ∨ ∃ kvs ob, o = .dK kvs ∧ H a = some (.frz ob o)
theorem Sub.refl (H : Hp) : Sub H H := fun _ _ h => .inl h
theorem Sub.same {G H H' : Hp} (s : Sub G H) (e : Same H H') : Sub G H' := fun a o h => by
  rcases s a o h with h | ⟨kvs, ob, e1, h⟩
  · exact .inl (e a o h)
  · exact .inr ⟨kvs, ob, e1, e a _ h⟩
theorem Sub.less {G G' H : Hp} (e : Same G G') (s : Sub G' H) : Sub G H := fun a o h => s a o (e a o h)
theorem Sub.non {G H : Hp} (s : Sub G H) {a : Addr} (h : H a = none) : G a = none := by
  cases q : G a with
  | none => rfl
  | some o =>
    rcases s a o q with e | ⟨_, _, _, e⟩ <;> rw [h] at e <;> cases e
theorem Sub.upd {G H : Hp} (s : Sub G H) {p : Addr} {o : HO} (h : G p = none) : Sub G (upd H p o) := fun a u e => by
  have ne : a ≠ p := fun z => by rw [z, h] at e; cases e
  rw [upd_ne ne]
  exact s a u e
theorem Sub.both {G H : Hp} (s : Sub G H) {p : Addr} {o : HO} : Sub (L2.upd G p o) (L2.upd H p o) := fun a u e => by
  by_cases ne : a = p
  · subst ne
    rw [upd_same] at e ⊢
    exact .inl e
  · rw [upd_ne ne] at e ⊢
    exact s a u e
/-- a mutable thing is told, too -/
theorem Sub.put {G H : Hp} (s : Sub G H) {p : Addr} {o : HO} (h : H p = some o) : Sub (L2.upd G p o) H := fun a u e => by
  by_cases ne : a = p
  · subst ne
    rw [upd_same] at e
    cases e
    exact .inl h
  · rw [upd_ne ne] at e
    exact s a u e
theorem Same.put {G : Hp} {p : Addr} {o : HO} (h : G p = none) : Same G (upd G p o) := fun a u e => by
  rw [upd_ne (ne_of_none e h)]
  exact e
theorem Same.mut {H H' : Hp} {p : Addr} {o : HO} (e : Same H H') (h : H p = none) : Same H (upd H' p o) := fun a u q => by
  rw [upd_ne (ne_of_none q h)]
  exact e a u q
theorem Sub.lst {G H : Hp} (s : Sub G H) {a : Addr} {xs : List V} (h : G a = some (.lst xs)) : H a = some (.lst xs) := by
  rcases s a _ h with e | ⟨kvs, ob, e1, e⟩
  · exact e
  · cases e1
theorem Sub.tup {G H : Hp} (s : Sub G H) {a : Addr} {xs : List V} (h : G a = some (.tup xs)) : H a = some (.tup xs) := by
  rcases s a _ h with e | ⟨kvs, ob, e1, e⟩
  · exact e
  · cases e1
theorem Sub.ins {G H : Hp} (s : Sub G H) {a C dx : Addr} {fs : List (Str × V)} (h : G a = some (.ins C dx fs)) : H a = some (.ins C dx fs) := by
  rcases s a _ h with e | ⟨kvs, ob, e1, e⟩
  · exact e
  · cases e1
theorem Sub.rd {G H : Hp} (s : Sub G H) {a : Addr} {kvs : List (Key × V)} (h : G a = some (.dK kvs)) : Rd H a (.dK kvs) := by
  rcases s a _ h with e | ⟨_, ob, e1, e⟩
  · exact .inl e
  · exact .inr ⟨ob, e⟩
theorem Sub.dget {G H : Hp} (s : Sub G H) {a : Addr} {kvs : List (Key × V)} (h : G a = some (.dK kvs)) (k : Key) : DGet H a (kV k) (valV kvs k) := .inl ⟨kvs, k, s.rd h, rfl, rfl⟩

/-- a step: the known part grows from G to G', the heap from H to H'; nothing that stood is changed, and what is newly known is new -/
structure Stp (G H G' H' : Hp) : Prop where
  ex : Same G G'
  sub : Sub G' H'
  keep : Same H H'
  new : ∀ a, G a = none → H a ≠ none → G' a = none
theorem Stp.refl {G H : Hp} (s : Sub G H) : Stp G H G H := ⟨Same.refl _, s, Same.refl _, fun _ h _ => h⟩
theorem Stp.trans {G H G1 H1 G2 H2 : Hp} (a : Stp G H G1 H1) (b : Stp G1 H1 G2 H2) : Stp G H G2 H2 :=
  ⟨a.ex.trans b.ex, b.sub, a.keep.trans b.keep, fun x h1 h2 => b.new x (a.new x h1 h2) (by
    cases q : H x with
    | none => exact absurd q h2
    | some o => rw [a.keep x o q]; simp)⟩
/-- the heap alone grows -/
theorem Stp.grow {G H G1 H1 H2 : Hp} (a : Stp G H G1 H1) (e : Same H1 H2) : Stp G H G1 H2 := ⟨a.ex, a.sub.same e, a.keep.trans e, a.new⟩
/-- a new thing, known from now on -/
theorem Stp.lay {G H G1 H1 : Hp} (a : Stp G H G1 H1) {p : Addr} {o : HO} (h : H1 p = none) : Stp G H (upd G1 p o) (upd H1 p o) := by
  have g1 : G1 p = none := a.sub.non h
  have h0 : H p = none := a.keep.free h
  refine ⟨a.ex.trans (Same.put g1), a.sub.both, a.keep.trans (Same.put h), fun x e1 e2 => ?_⟩
  have ne : x ≠ p := fun z => by rw [z] at e2; exact e2 h0
  rw [upd_ne ne]
  exact a.new x e1 e2
/-- a new thing, not told -/
theorem Stp.hide {G H G1 H1 : Hp} (a : Stp G H G1 H1) {p : Addr} {o : HO} (h : H1 p = none) : Stp G H G1 (upd H1 p o) := a.grow (Same.put h)
/-- a thing of one's own is written -/
theorem Stp.write {G H G1 H1 : Hp} (a : Stp G H G1 H1) {p : Addr} {o : HO} (g : G1 p = none) (h : H p = none) : Stp G H G1 (upd H1 p o) :=
  ⟨a.ex, a.sub.upd g, Same.mut a.keep h, a.new⟩
/-- a thing of one's own is told -/
theorem Stp.tell {G H G1 H1 : Hp} (a : Stp G H G1 H1) {p : Addr} {o : HO} (g : G1 p = none) (h : H p = none) (q : H1 p = some o) : Stp G H (upd G1 p o) H1 := by
  refine ⟨a.ex.trans (Same.put g), a.sub.put q, a.keep, fun x e1 e2 => ?_⟩
  have ne : x ≠ p := fun z => by rw [z] at e2; exact e2 h
  rw [upd_ne ne]
  exact a.new x e1 e2

/-! ### what an expression is worth: G stays, the heap may grow -/
def Gv (te : TE) (σ : L2.St) (G : Hp) (v : V) : Prop := ∀ H, Sub G H → ∀ Q : VK, (∀ H', Same H H' → Q v H') → te σ H Q
def Gt (tt : TT) (σ : L2.St) (G : Hp) (b : Bool) : Prop := ∀ H, Sub G H → ∀ Q : Bool → Hp → Prop, (∀ H', Same H H' → Q b H') → tt σ H Q
def Ga (ta : TA) (σ : L2.St) (G : Hp) (vs : List V) : Prop := ∀ H, Sub G H → ∀ Q : List V → Hp → Prop, (∀ H', Same H H' → Q vs H') → ta σ H Q
/-- a new list, a new tuple, a new dict -/
def Gn (mk : HO) (te : TE) (σ : L2.St) (G : Hp) : Prop := ∀ H, Sub G H → ∀ Q : VK, (∀ p H', Same H H' → H p = none → H' p = some mk → Q (.ref p) H') → te σ H Q
abbrev Gls (te : TE) (σ : L2.St) (G : Hp) (vs : List V) : Prop := Gn (.lst vs) te σ G
abbrev Gu (te : TE) (σ : L2.St) (G : Hp) (vs : List V) : Prop := Gn (.tup vs) te σ G
abbrev Gd (te : TE) (σ : L2.St) (G : Hp) (kvs : List (Key × V)) : Prop := Gn (.dK kvs) te σ G
/-- operators, one place, calls, by values -/
def Rv (r : R2) (x y : V) (G : Hp) (z : V) : Prop := ∀ H, Sub G H → ∀ Q : VK, (∀ H', Same H H' → Q z H') → r x y H Q
def Rc (r : List V → Hp → VK → Prop) (vs : List V) (G : Hp) (z : V) : Prop := ∀ H, Sub G H → ∀ Q : VK, (∀ H', Same H H' → Q z H') → r vs H Q
def Sv (sp : Sp) (vs : List V) (G : Hp) (z : V) : Prop := ∀ H, Sub G H → ∀ (Q : VK) (E : XK), (∀ H', Same H H' → Q z H') → sp vs H Q E

section
variable {K : PySem.W.Frag} {σ : L2.St} {G H : Hp} {ta tb tc te td tx ty : TE} {t u : TT} {tr : TA} {x y z v w : V} {vs ws xs : List V} {r r' : R2} {b c : Bool} {a p C dx : Addr} {kvs : List (Key × V)} {k : Key}
theorem Gv.less {G' : Hp} (e : Same G G') (h : Gv te σ G v) : Gv te σ G' v := fun H s Q q => h H (s.less e) Q q
theorem Gt.less {G' : Hp} (e : Same G G') (h : Gt t σ G b) : Gt t σ G' b := fun H s Q q => h H (s.less e) Q q
theorem Gn.less {G' : Hp} {mk : HO} (e : Same G G') (h : Gn mk te σ G) : Gn mk te σ G' := fun H s Q q => h H (s.less e) Q q
theorem gv_var {i : Nat} (h : σ[i]? = some (some v)) : Gv (tVar i) σ G v := fun H _ _ q => ⟨v, h, q H (Same.refl H)⟩
theorem gv_c : Gv (tC v) σ G v := fun H _ _ q => q H (Same.refl H)
theorem gv_op (ha : Gv ta σ G x) (hb : Gv tb σ G y) (hr : Rv r x y G z) : Gv (tOp r ta tb) σ G z := fun H s Q q =>
  ha H s _ fun H1 e1 => hb H1 (s.same e1) _ fun H2 e2 => hr H2 ((s.same e1).same e2) Q fun H3 e3 => q H3 ((e1.trans e2).trans e3)
theorem gv_eq (e : v = w) (h : Gv te σ G v) : Gv te σ G w := e ▸ h
theorem gt_eq (e : b = c) (h : Gt t σ G b) : Gt t σ G c := e ▸ h
theorem gn_eq {m m' : HO} (e : m = m') (h : Gn m te σ G) : Gn m' te σ G := e ▸ h
theorem rv_now {g : Hp → VK → Prop} (h : ∀ H, Sub G H → ∀ Q : VK, Q z H → r x y H Q) : Rv r x y G z := fun H s Q q => h H s Q (q H (Same.refl H))
theorem rc_now {r : List V → Hp → VK → Prop} (h : ∀ H, Sub G H → ∀ Q : VK, Q z H → r vs H Q) : Rc r vs G z := fun H s Q q => h H s Q (q H (Same.refl H))
theorem rv_or1 (h : Rv r x y G z) : Rv (fun x y H Q => r x y H Q ∨ r' x y H Q) x y G z := fun H s Q q => .inl (h H s Q q)
theorem rv_or2 (h : Rv r' x y G z) : Rv (fun x y H Q => r x y H Q ∨ r' x y H Q) x y G z := fun H s Q q => .inr (h H s Q q)
theorem rv_I0 {g : Int → Int → V} {i j : Int} : Rv (rI0 g) (.int i) (.int j) G (g i j) := fun H _ _ q => ⟨i, j, rfl, rfl, q H (Same.refl H)⟩
theorem rv_I {D : Int → Int → Prop} {g : Int → Int → V} {i j : Int} (hc : D i j) : Rv (rI D g) (.int i) (.int j) G (g i j) := fun H _ _ q => ⟨i, j, rfl, rfl, hc, q H (Same.refl H)⟩
theorem rv_eq (h : scal x y = true) : Rv rEq x y G (.bl (decide (x = y))) := fun H _ _ q => ⟨h, q H (Same.refl H)⟩
theorem rv_ne (h : scal x y = true) : Rv rNe x y G (.bl (!decide (x = y))) := fun H _ _ q => ⟨h, q H (Same.refl H)⟩
theorem rv_ixT {i : Int} (h : G p = some (.tup xs)) (ha : atI xs i = some v) : Rv (rIxT K) (.ref p) (.int i) G v := fun H s _ q => ⟨p, xs, i, v, rfl, rfl, SqT.of (s.tup h), ha, q H (Same.refl H)⟩
theorem rv_ixL {i : Int} (h : G p = some (.lst xs)) (ha : atI xs i = some v) : Rv (rIxL K) (.ref p) (.int i) G v := fun H s _ q => ⟨p, xs, i, v, rfl, rfl, SqL.of (s.lst h), ha, q H (Same.refl H)⟩
theorem rv_isN : Rv (fun x y H Q => y = .non ∧ Q (.bl (decide (x = .non))) H) x .non G (.bl (decide (x = .non))) := fun H _ _ q => ⟨rfl, q H (Same.refl H)⟩
theorem rv_notN : Rv (fun x y H Q => y = .non ∧ Q (.bl (!decide (x = .non))) H) x .non G (.bl (!decide (x = .non))) := fun H _ _ q => ⟨rfl, q H (Same.refl H)⟩
theorem rv_inL {neg : Bool} (h : G p = some (.lst xs)) (hx : flatV x = true) (ha : xs.all flatV = true) : Rv (rIn K neg) x (.ref p) G (.bl (if neg then !inV x xs else inV x xs)) :=
  fun H s _ q => ⟨p, xs, rfl, Or.inl (SqL.of (s.lst h)), hx, ha, q H (Same.refl H)⟩
theorem rv_inT {neg : Bool} (h : G p = some (.tup xs)) (hx : flatV x = true) (ha : xs.all flatV = true) : Rv (rIn K neg) x (.ref p) G (.bl (if neg then !inV x xs else inV x xs)) :=
  fun H s _ q => ⟨p, xs, rfl, Or.inr (SqT.of (s.tup h)), hx, ha, q H (Same.refl H)⟩
/-- an operand that is new -/
theorem gv_opN2 {mk : HO} (ha : Gv ta σ G x) (hb : Gn mk tb σ G) (hr : ∀ q, G q = none → Rv r x (.ref q) (upd G q mk) z) : Gv (tOp r ta tb) σ G z := fun H s Q q =>
  ha H s _ fun H1 e1 => hb H1 (s.same e1) _ fun p H2 e2 hp h2 => hr p ((s.same e1).non hp) H2 (((s.same e1).same e2).put h2) Q fun H3 e3 => q H3 ((e1.trans e2).trans e3)
theorem gv_opN1 {mk : HO} (ha : Gn mk ta σ G) (hb : ∀ q, G q = none → Gv tb σ (upd G q mk) y) (hr : ∀ q, G q = none → Rv r (.ref q) y (upd G q mk) z) : Gv (tOp r ta tb) σ G z := fun H s Q q =>
  ha H s _ fun p H1 e1 hp h1 => hb p (s.non hp) H1 ((s.same e1).put h1) _ fun H2 e2 => hr p (s.non hp) H2 (((s.same e1).put h1).same e2) Q fun H3 e3 => q H3 ((e1.trans e2).trans e3)
theorem gv_opNN {m1 m2 : HO} (ha : Gn m1 ta σ G) (hb : Gn m2 tb σ G) (hr : ∀ q1 q2, q1 ≠ q2 → G q1 = none → G q2 = none → Rv r (.ref q1) (.ref q2) (upd (upd G q1 m1) q2 m2) z) : Gv (tOp r ta tb) σ G z := fun H s Q q =>
  ha H s _ fun p1 H1 e1 hp1 h1 => hb H1 (s.same e1) _ fun p2 H2 e2 hp2 h2 => by
    have ne : p1 ≠ p2 := ne_of_none h1 hp2
    exact hr p1 p2 ne (s.non hp1) (s.non (e1.free hp2)) H2 ((((s.same e1).same e2).put (e2 _ _ h1)).put h2) Q fun H3 e3 => q H3 ((e1.trans e2).trans e3)
/-! tests -/
theorem gt_test (h : Gv te σ G (.bl b)) : Gt (tTest te) σ G b := fun H s _ q => h H s _ fun H1 e1 => ⟨b, rfl, q H1 e1⟩
theorem gt_B (h : Gv te σ G (.bl b)) : Gt (tB te) σ G b := fun H s _ q => h H s _ fun H1 e1 => ⟨b, rfl, q H1 e1⟩
theorem gt_not (h : Gt t σ G b) : Gt (tNot t) σ G (!b) := fun H s _ q => h H s _ fun H1 e1 => q H1 e1
theorem gt_and (h1 : Gt t σ G b) (h2 : b = true → Gt u σ G c) : Gt (tAnd t u) σ G (b && c) := fun H s Q q => h1 H s _ fun H1 e1 => by
  cases b with
  | true => exact h2 rfl H1 (s.same e1) Q fun H2 e2 => q H2 (e1.trans e2)
  | false => exact q H1 e1
theorem gt_or (h1 : Gt t σ G b) (h2 : b = false → Gt u σ G c) : Gt (tOr t u) σ G (b || c) := fun H s Q q => h1 H s _ fun H1 e1 => by
  cases b with
  | true => exact q H1 e1
  | false => exact h2 rfl H1 (s.same e1) Q fun H2 e2 => q H2 (e1.trans e2)
theorem gt_yes : Gt tYes σ G true := fun H _ _ q => q H (Same.refl H)
theorem gv_andV (h1 : Gv ta σ G (.bl b)) (h2 : b = true → Gv tb σ G (.bl c)) : Gv (tAndV ta tb) σ G (.bl (b && c)) := fun H s Q q => h1 H s _ fun H1 e1 => ⟨b, rfl, by
  cases b with
  | true => exact h2 rfl H1 (s.same e1) Q fun H2 e2 => q H2 (e1.trans e2)
  | false => exact q H1 e1⟩
theorem gv_orV (h1 : Gv ta σ G (.bl b)) (h2 : b = false → Gv tb σ G (.bl c)) : Gv (tOrV ta tb) σ G (.bl (b || c)) := fun H s Q q => h1 H s _ fun H1 e1 => ⟨b, rfl, by
  cases b with
  | true => exact q H1 e1
  | false => exact h2 rfl H1 (s.same e1) Q fun H2 e2 => q H2 (e1.trans e2)⟩
theorem gv_notV (h1 : Gv ta σ G (.bl b)) : Gv (tNotV ta) σ G (.bl (!b)) := fun H s _ q => h1 H s _ fun H1 e1 => ⟨b, rfl, q H1 e1⟩
theorem gv_if (h : Gt t σ G b) (h1 : b = true → Gv ta σ G v) (h2 : b = false → Gv tb σ G v) : Gv (tIf t ta tb) σ G v := fun H s Q q => h H s _ fun H1 e1 => by
  cases b with
  | true => exact h1 rfl H1 (s.same e1) Q fun H2 e2 => q H2 (e1.trans e2)
  | false => exact h2 rfl H1 (s.same e1) Q fun H2 e2 => q H2 (e1.trans e2)
theorem gn_if {mk : HO} (h : Gt t σ G b) (h1 : b = true → Gn mk ta σ G) (h2 : b = false → Gn mk tb σ G) : Gn mk (tIf t ta tb) σ G := fun H s Q q => h H s _ fun H1 e1 => by
  cases b with
  | true => exact h1 rfl H1 (s.same e1) Q fun p H2 e2 hp h2 => q p H2 (e1.trans e2) (e1.free hp) h2
  | false => exact h2 rfl H1 (s.same e1) Q fun p H2 e2 hp h2 => q p H2 (e1.trans e2) (e1.free hp) h2
theorem gv_chain (ha : Gv ta σ G x) (hb : Gv tb σ G y) (hr : Rv r x y G (.bl b)) (hc : b = true → Gv tc σ G w) (hr' : b = true → Rv r' y w G (.bl c)) : Gv (tChain r r' ta tb tc) σ G (.bl (b && c)) := fun H s Q q =>
  ha H s _ fun H1 e1 => hb H1 (s.same e1) _ fun H2 e2 => hr H2 ((s.same e1).same e2) _ fun H3 e3 => ⟨b, rfl, by
    cases b with
    | true =>
      exact hc rfl H3 (((s.same e1).same e2).same e3) _ fun H4 e4 => hr' rfl H4 ((((s.same e1).same e2).same e3).same e4) Q fun H5 e5 => q H5 ((((e1.trans e2).trans e3).trans e4).trans e5)
    | false => exact q H3 ((e1.trans e2).trans e3)⟩
/-! arguments, displays -/
theorem ga_nil : Ga tNil σ G [] := fun H _ _ q => q H (Same.refl H)
theorem ga_cons (h : Gv te σ G v) (hr : Ga tr σ G vs) : Ga (tCons te tr) σ G (v :: vs) := fun H s _ q =>
  h H s _ fun H1 e1 => hr H1 (s.same e1) _ fun H2 e2 => q H2 (e1.trans e2)
theorem gl_lst (h : Ga tr σ G vs) (hl : vs.length ≤ sizeLine) : Gls (tLst tr) σ G vs := fun H s _ q =>
  h H s _ fun H1 e1 => ⟨hl, fun p hp => q p _ (e1.trans (Same.put hp)) (e1.free hp) upd_same⟩
theorem gu_tup (h : Ga tr σ G vs) (hl : vs.length ≤ sizeLine) : Gu (tTup tr) σ G vs := fun H s _ q =>
  h H s _ fun H1 e1 => ⟨hl, fun p hp => q p _ (e1.trans (Same.put hp)) (e1.free hp) upd_same⟩
theorem gd_new : Gd tDNewK σ G [] := fun H _ _ q => fun p hp => q p _ (Same.put hp) hp upd_same
/-! attributes, dicts -/
theorem gv_fld {f : Str} {fs : List (Str × V)} (h : Gv te σ G (.ref a)) (ha : G a = some (.ins C dx fs)) (c : Cls K C) (n : NoAttr K C f) (l : fs.lookup f = some v) : Gv (tFld K te f) σ G v := fun H s _ q =>
  h H s _ fun H1 e1 => ⟨a, C, dx, fs, v, rfl, (s.same e1).ins ha, c, n, l, q H1 e1⟩
theorem gv_dget (hd : Gv td σ G (.ref a)) (hk : Gv ty σ G (kV k)) (ha : G a = some (.dK kvs)) (hv : valV kvs k = some v) : Gv (tDGet td ty) σ G v := fun H s _ q =>
  hd H s _ fun H1 e1 => hk H1 (s.same e1) _ fun H2 e2 => ⟨a, v, rfl, by rw [← hv]; exact ((s.same e1).same e2).dget ha k, q H2 (e1.trans e2)⟩
theorem gv_din (hk : Gv ty σ G (kV k)) (hd : Gv td σ G (.ref a)) (ha : G a = some (.dK kvs)) : Gv (tDIn ty td) σ G (.bl (valV kvs k).isSome) := fun H s _ q =>
  hk H s _ fun H1 e1 => hd H1 (s.same e1) _ fun H2 e2 => ⟨a, _, rfl, ((s.same e1).same e2).dget ha k, q H2 (e1.trans e2)⟩
theorem gv_dnotin (hk : Gv ty σ G (kV k)) (hd : Gv td σ G (.ref a)) (ha : G a = some (.dK kvs)) : Gv (tDNotIn ty td) σ G (.bl (!(valV kvs k).isSome)) := fun H s _ q =>
  hk H s _ fun H1 e1 => hd H1 (s.same e1) _ fun H2 e2 => ⟨a, _, rfl, ((s.same e1).same e2).dget ha k, q H2 (e1.trans e2)⟩
/-! calls -/
theorem gv_call {sp : Sp} {dvs : List V} {E : XK} (h : Ga tr σ G vs) (hs : Sv sp (vs ++ dvs) G z) : Gv (tCall sp dvs E tr) σ G z := fun H s Q q =>
  h H s _ fun H1 e1 => hs H1 (s.same e1) Q E fun H2 e2 => q H2 (e1.trans e2)
theorem gv_meth {m : Str} {sp : Sp} {dvs : List V} {E : XK} {fs : List (Str × V)} (h : Gv te σ G (.ref a)) (ha : G a = some (.ins C dx fs)) (l : fs.lookup m = none) (hv : Ga tr σ G vs) (hs : Sv sp (.ref a :: (vs ++ dvs)) G z) : Gv (tMeth C m sp dvs E te tr) σ G z := fun H s Q q =>
  h H s _ fun H1 e1 => ⟨a, dx, fs, rfl, (s.same e1).ins ha, l, hv H1 (s.same e1) _ fun H2 e2 => hs H2 ((s.same e1).same e2) Q E fun H3 e3 => q H3 ((e1.trans e2).trans e3)⟩
theorem gv_prop {sp : Sp} {dvs : List V} {E : XK} {fs : List (Str × V)} (h : Gv te σ G (.ref a)) (ha : G a = some (.ins C dx fs)) (hs : Sv sp (.ref a :: dvs) G z) : Gv (tProp C sp dvs E te) σ G z := fun H s Q q =>
  h H s _ fun H1 e1 => ⟨a, dx, fs, rfl, (s.same e1).ins ha, hs H1 (s.same e1) Q E fun H2 e2 => q H2 (e1.trans e2)⟩
theorem gv_cb {r : List V → Hp → VK → Prop} (h : Ga tr σ G vs) (hr : Rc r vs G z) : Gv (tCB r tr) σ G z := fun H s Q q =>
  h H s _ fun H1 e1 => hr H1 (s.same e1) Q fun H2 e2 => q H2 (e1.trans e2)
/-- a call of a new thing -/
theorem gv_cbN {r : List V → Hp → VK → Prop} {mk : HO} (h : Gn mk te σ G) (hr : ∀ q, G q = none → Rc r [.ref q] (upd G q mk) z) : Gv (tCB r (tCons te tNil)) σ G z := fun H s Q q =>
  h H s _ fun p H1 e1 hp h1 => hr p (s.non hp) H1 ((s.same e1).put h1) Q fun H2 e2 => q H2 (e1.trans e2)
theorem gn_cb {r : List V → Hp → VK → Prop} {mk : HO} (h : Ga tr σ G vs) (hr : ∀ H, Sub G H → ∀ Q : VK, (∀ p H', Same H H' → H p = none → H' p = some mk → Q (.ref p) H') → r vs H Q) : Gn mk (tCB r tr) σ G := fun H s Q q =>
  h H s _ fun H1 e1 => hr H1 (s.same e1) Q fun p H2 e2 hp h2 => q p H2 (e1.trans e2) (e1.free hp) h2
theorem gn_cbN {r : List V → Hp → VK → Prop} {mk m1 : HO} (h : Gn m1 te σ G) (hr : ∀ p, G p = none → ∀ H, Sub (upd G p m1) H → ∀ Q : VK, (∀ p H', Same H H' → H p = none → H' p = some mk → Q (.ref p) H') → r [.ref p] H Q) : Gn mk (tCB r (tCons te tNil)) σ G := fun H s Q q =>
  h H s _ fun p H1 e1 hp h1 => hr p (s.non hp) H1 ((s.same e1).put h1) Q fun p2 H2 e2 hp2 h2 => q p2 H2 (e1.trans e2) (e1.free hp2) h2
theorem gn_call {sp : Sp} {dvs : List V} {E : XK} {mk : HO} (h : Ga tr σ G vs) (hs : ∀ H, Sub G H → ∀ (Q : VK) (E : XK), (∀ p H', Same H H' → H p = none → H' p = some mk → Q (.ref p) H') → sp (vs ++ dvs) H Q E) : Gn mk (tCall sp dvs E tr) σ G := fun H s Q q =>
  h H s _ fun H1 e1 => hs H1 (s.same e1) Q E fun p H2 e2 hp h2 => q p H2 (e1.trans e2) (e1.free hp) h2
theorem gn_meth {m : Str} {sp : Sp} {dvs : List V} {E : XK} {fs : List (Str × V)} {mk : HO} (h : Gv te σ G (.ref a)) (ha : G a = some (.ins C dx fs)) (l : fs.lookup m = none) (hv : Ga tr σ G vs)
    (hs : ∀ H, Sub G H → ∀ (Q : VK) (E : XK), (∀ p H', Same H H' → H p = none → H' p = some mk → Q (.ref p) H') → sp (.ref a :: (vs ++ dvs)) H Q E) : Gn mk (tMeth C m sp dvs E te tr) σ G := fun H s Q q =>
  h H s _ fun H1 e1 => ⟨a, dx, fs, rfl, (s.same e1).ins ha, l, hv H1 (s.same e1) _ fun H2 e2 => hs H2 ((s.same e1).same e2) Q E fun p H3 e3 hp h3 => q p H3 ((e1.trans e2).trans e3) ((e1.trans e2).free hp) h3⟩
theorem rc_all {bs : List Bool} (h : G p = some (.lst (bs.map V.bl))) : Rc (rAll K) [.ref p] G (.bl (bs.all id)) := fun H s _ q => ⟨p, bs, rfl, SqL.of (s.lst h), q H (Same.refl H)⟩
theorem rc_any {bs : List Bool} (h : G p = some (.lst (bs.map V.bl))) : Rc (rAny K) [.ref p] G (.bl (bs.any id)) := fun H s _ q => ⟨p, bs, rfl, SqL.of (s.lst h), q H (Same.refl H)⟩
theorem gv_all {bs : List Bool} (h : Gls te σ G (bs.map V.bl)) : Gv (tCB (rAll K) (tCons te tNil)) σ G (.bl (bs.all id)) := gv_cbN h fun _ _ => rc_all upd_same
theorem gv_any {bs : List Bool} (h : Gls te σ G (bs.map V.bl)) : Gv (tCB (rAny K) (tCons te tNil)) σ G (.bl (bs.any id)) := gv_cbN h fun _ _ => rc_any upd_same
end
end K25

/-! K1 -/
/-! K1: comprehensions over the judgements of K0. -/
namespace K25
open PySem PySem.Spec PyProof.Rows L2

/-! ### locks -/
def tLk (t : TE) : TE := fun σ H Q => t σ H Q ∨ tLockE t σ H Q
theorem pe_lk {X : Cx} {e : Expr} {t : TE} (h : PE X e t) : PE X e (tLk t) := ⟨fun pins s σ H Q I hw => hw.elim (fun hw => h.run pins s σ H Q I hw) fun hw => (pe_lock h).run pins s σ H Q I hw⟩
def Lk (d : Addr) (kvs : List (Key × V)) (H : Hp) : Prop := ∃ ob, H d = some (.frz ob (.dK kvs))
abbrev Fr0 (_ : Hp) : Prop := True
theorem Same.lk {H H' : Hp} {d : Addr} {kvs : List (Key × V)} (e : Same H H') (h : Lk d kvs H) : Lk d kvs H' := let ⟨ob, h⟩ := h; ⟨ob, e d _ h⟩
/-- an expression that gives a value, the known part growing; under a condition of the heap -/
def Gx (Pre : Hp → Prop) (te : TE) (σ : L2.St) (G : Hp) (Φ : V → Hp → Prop) : Prop := ∀ H, Sub G H → Pre H → ∀ Q : VK, (∀ v G' H', Stp G H G' H' → Φ v G' → Q v H') → te σ H Q
/-- a new thing of this content, not told yet -/
def Gm (Pre : Hp → Prop) (te : TE) (σ : L2.St) (G : Hp) (Φ : HO → Hp → Prop) : Prop := ∀ H, Sub G H → Pre H → ∀ Q : VK, (∀ p o G' H', Stp G H G' H' → H p = none → G' p = none → H' p = some o → Φ o G' → Q (.ref p) H') → te σ H Q
abbrev Ge (te : TE) (σ : L2.St) (G : Hp) (Φ : V → Hp → Prop) : Prop := Gx Fr0 te σ G Φ
theorem sub_lock {G H : Hp} (s : Sub G H) {d : Addr} {kvs : List (Key × V)} {ob : Obj} (g : G d = some (.dK kvs)) : Sub G (upd H d (.frz ob (.dK kvs))) := fun a o h => by
  by_cases ne : a = d
  · subst ne
    rw [g] at h
    cases h
    exact .inr ⟨kvs, ob, rfl, upd_same⟩
  · rw [upd_ne ne]
    exact s a o h
theorem stp_unlock {G H G' H' : Hp} {d : Addr} {kvs : List (Key × V)} {ob : Obj} (g : G d = some (.dK kvs)) (hd : H d = some (.dK kvs)) (s : Stp G (upd H d (.frz ob (.dK kvs))) G' H') : Stp G H G' (upd H' d (.dK kvs)) := by
  refine ⟨s.ex, fun a o h => ?_, fun a o h => ?_, fun a h1 h2 => s.new a h1 ?_⟩
  · by_cases ne : a = d
    · subst ne
      have e := s.ex a _ g
      rw [h] at e
      cases e
      exact .inl upd_same
    · rw [upd_ne ne]
      exact s.sub a o h
  · by_cases ne : a = d
    · subst ne
      rw [hd] at h
      cases h
      exact upd_same
    · rw [upd_ne ne]
      exact s.keep a o (by rw [upd_ne ne]; exact h)
  · by_cases ne : a = d
    · subst ne
      rw [upd_same]
      simp
    · rw [upd_ne ne]
      exact h2
theorem gx_lk {t : TE} {σ : L2.St} {G : Hp} {Φ : V → Hp → Prop} {d : Addr} {kvs : List (Key × V)} (g : G d = some (.dK kvs)) (h : Gx (Lk d kvs) t σ G Φ) : Ge (tLk t) σ G Φ := fun H s _ Q q => by
  rcases s.rd g with hd | ⟨ob, hd⟩
  · refine .inr ⟨d, .dK kvs, hd, trivial, fun od => h _ (sub_lock s g) ⟨od, upd_same⟩ _ fun v G' H' st fv => ⟨st.keep d _ upd_same, q v G' _ (stp_unlock g hd st) fv⟩⟩
  · exact .inl (h H s ⟨ob, hd⟩ Q q)
theorem gm_lk {t : TE} {σ : L2.St} {G : Hp} {Φ : HO → Hp → Prop} {d : Addr} {kvs : List (Key × V)} (g : G d = some (.dK kvs)) (h : Gm (Lk d kvs) t σ G Φ) : Gm Fr0 (tLk t) σ G Φ := fun H s _ Q q => by
  rcases s.rd g with hd | ⟨ob, hd⟩
  · refine .inr ⟨d, .dK kvs, hd, trivial, fun od => h _ (sub_lock s g) ⟨od, upd_same⟩ _ fun p o G' H' st hp gp h' fv => ⟨st.keep d _ upd_same, ?_⟩⟩
    have ne : p ≠ d := fun z => by rw [z, upd_same] at hp; cases hp
    exact q p o G' _ (stp_unlock g hd st) (by rw [upd_ne ne] at hp; exact hp) gp (by rw [upd_ne ne]; exact h') fv
  · exact .inl (h H s ⟨ob, hd⟩ Q q)
theorem Gm.told {Pre : Hp → Prop} {te : TE} {σ : L2.St} {G : Hp} {Φ : HO → Hp → Prop} (h : Gm Pre te σ G Φ) : Gx Pre te σ G fun v G' => ∃ p o G1, v = .ref p ∧ G1 p = none ∧ Φ o G1 ∧ G' = upd G1 p o := fun H s c Q q =>
  h H s c Q fun p o G' H' st hp gp h' fv => q _ (upd G' p o) H' (st.tell gp hp h') ⟨p, o, G', rfl, gp, fv, rfl⟩
theorem Gm.gn {te : TE} {σ : L2.St} {G : Hp} {mk : HO} (h : Gm Fr0 te σ G fun o _ => o = mk) : Gn mk te σ G := fun H s Q q =>
  h H s trivial Q fun p o G' H' st hp gp h' e => q p H' st.keep hp (by rw [h', e])
theorem Gn.gm {te : TE} {σ : L2.St} {G : Hp} {mk : HO} {Pre : Hp → Prop} (h : Gn mk te σ G) : Gm Pre te σ G fun o G' => o = mk ∧ G' = G := fun H s _ Q q =>
  h H s Q fun p H' e hp h' => q p mk G H' ⟨Same.refl _, s.same e, e, fun _ z _ => z⟩ hp (s.non hp) h' ⟨rfl, rfl⟩
theorem Gv.gx {te : TE} {σ : L2.St} {G : Hp} {v : V} {Pre : Hp → Prop} (h : Gv te σ G v) : Gx Pre te σ G fun v' G' => v' = v ∧ G' = G := fun H s _ Q q =>
  h H s Q fun H' e => q v G H' ⟨Same.refl _, s.same e, e, fun _ z _ => z⟩ ⟨rfl, rfl⟩
theorem Gx.gv {te : TE} {σ : L2.St} {G : Hp} {v : V} (h : Ge te σ G fun v' _ => v' = v) : Gv te σ G v := fun H s Q q =>
  h H s trivial Q fun v' G' H' st e => by rw [e]; exact q H' st.keep
theorem Gx.imp {Pre : Hp → Prop} {te : TE} {σ : L2.St} {G : Hp} {Φ Ψ : V → Hp → Prop} (h : Gx Pre te σ G Φ) (i : ∀ v G', Same G G' → Φ v G' → Ψ v G') : Gx Pre te σ G Ψ := fun H s c Q q =>
  h H s c Q fun v G' H' st f => q v G' H' st (i v G' st.ex f)

/-! ### what is walked, with the target: at the turn of d the slots become up d σ; it leans on the known part and on what is locked -/
def Frz (H1 H2 : Hp) : Prop := ∀ a ob o, H1 a = some (.frz ob o) → H2 a = some (.frz ob o)
theorem Frz.refl (H : Hp) : Frz H H := fun _ _ _ h => h
theorem Frz.same {H1 H2 H3 : Hp} (f : Frz H1 H2) (e : Same H2 H3) : Frz H1 H3 := fun a ob o h => e a _ (f a ob o h)
theorem Same.frz {H1 H2 : Hp} (e : Same H1 H2) : Frz H1 H2 := fun a ob o h => e a _ h
theorem Frz.pre {H1 H2 H3 : Hp} (e : Same H1 H2) (f : Frz H2 H3) : Frz H1 H3 := fun a ob o h => f a ob o (e a _ h)
theorem Frz.trans {H1 H2 H3 : Hp} (e : Frz H1 H2) (f : Frz H2 H3) : Frz H1 H3 := fun a ob o h => f a ob o (e a _ _ h)
theorem Frz.upd {H1 H2 : Hp} {p : Addr} {o : HO} (f : Frz H1 H2) (h : ∀ ob u, H2 p ≠ some (.frz ob u)) : Frz H1 (L2.upd H2 p o) := fun a ob u q => by
  have q2 := f a ob u q
  have ne : a ≠ p := fun z => by rw [z] at q2; exact h _ _ q2
  rw [upd_ne ne]
  exact q2
structure Wkd {δ : Type} (J : It) (g : TG) (ds : List δ) (up : δ → L2.St → L2.St) (G1 H1 : Hp) : Prop where
  go : ∀ H2, Sub G1 H2 → Frz H1 H2 → ∀ (i : Nat) d, ds[i]? = some d → J.go i H2 ∧ ∀ x H3, J.yld i H2 x H3 → Same H2 H3 ∧ ∀ (σ' : L2.St) (Q : L2.St → Hp → Prop), (∀ H4, Same H3 H4 → Q (up d σ') H4) → g x σ' H3 Q
  stop : ∀ H2, Sub G1 H2 → Frz H1 H2 → J.stop ds.length H2
def GI {δ : Type} (Pre : Hp → Prop) (wi : TI) (g : TG) (σ : L2.St) (G : Hp) (ds : List δ) (up : δ → L2.St → L2.St) : Prop := ∀ H, Sub G H → Pre H → ∀ R : It → Hp → Prop, (∀ J G' H', Stp G H G' H' → Wkd J g ds up G' H' → R J H') → wi σ H R
def upN {δ : Type} (j : Nat) (emb : δ → V) : δ → L2.St → L2.St := fun d σ => σ.set j (some (emb d))
def upN2 {δ : Type} (i j : Nat) (e1 e2 : δ → V) : δ → L2.St → L2.St := fun d σ => (σ.set i (some (e1 d))).set j (some (e2 d))
/-- Pre says that the dict is locked -/
class Lks (Pre : Hp → Prop) (d : Addr) (kvs : List (Key × V)) : Prop where
  lk : ∀ H, Pre H → Lk d kvs H
instance {d : Addr} {kvs : List (Key × V)} : Lks (Lk d kvs) d kvs := ⟨fun _ h => h⟩
section
variable {δ : Type} {K : PySem.W.Frag} {σ : L2.St} {G : Hp} {ds : List δ} {emb : δ → V} {j : Nat} {tl te td : TE} {a d p : Addr} {Pre : Hp → Prop}
theorem map_at {f : δ → V} {i : Nat} {x : δ} (h : ds[i]? = some x) : (ds.map f)[i]? = some (f x) := by rw [List.getElem?_map, h]; rfl
theorem wk_list {H1 : Hp} (ha : G a = some (.lst (ds.map emb))) : Wkd (Itl K a) (gName j) ds (upN j emb) G H1 := ⟨fun H2 s2 _ i d hd => ⟨⟨_, _, SqL.of (s2.lst ha), map_at hd⟩, fun x H3 y => by
    obtain ⟨rfl, y⟩ := y
    have e := (y _ (SqL.of (s2.lst ha))).symm.trans (map_at hd)
    cases e
    exact ⟨Same.refl _, fun σ' Q q => q _ (Same.refl _)⟩⟩, fun H2 s2 _ => ⟨_, SqL.of (s2.lst ha), by simp⟩⟩
theorem gi_list (h : Gv tl σ G (.ref a)) (ha : G a = some (.lst (ds.map emb))) : GI Pre (iList K tl) (gName j) σ G ds (upN j emb) := fun H s _ R r =>
  h H s _ fun H1 e1 => ⟨a, rfl, ⟨_, SqL.of ((s.same e1).lst ha)⟩, r _ G H1 ((Stp.refl s).grow e1) (wk_list ha)⟩
theorem gi_listN (h : Gls tl σ G (ds.map emb)) : GI Pre (iList K tl) (gName j) σ G ds (upN j emb) := fun H s _ R r =>
  h H s _ fun p H1 e1 hp h1 => ⟨p, rfl, ⟨_, SqL.of h1⟩, r _ (upd G p _) H1 (((Stp.refl s).grow e1).tell (s.non hp) hp h1) (wk_list upd_same)⟩
theorem gi_tupN (h : Gu tl σ G (ds.map emb)) : GI Pre (iTup K tl) (gName j) σ G ds (upN j emb) := fun H s _ R r =>
  h H s _ fun p H1 e1 hp h1 => ⟨p, rfl, ⟨_, SqT.of h1⟩, r _ (upd G p _) H1 (((Stp.refl s).grow e1).tell (s.non hp) hp h1) ⟨fun H2 s2 _ i d hd => ⟨⟨_, _, SqT.of (s2.tup upd_same), map_at hd⟩, fun x H3 y => by
    obtain ⟨rfl, y⟩ := y
    have e := (y _ (SqT.of (s2.tup upd_same))).symm.trans (map_at hd)
    cases e
    exact ⟨Same.refl _, fun σ' Q q => q _ (Same.refl _)⟩⟩, fun H2 s2 _ => ⟨_, SqT.of (s2.tup upd_same), by simp⟩⟩⟩
theorem gi_str {x : Str} (h : Gv te σ G (.str x)) : GI Pre (iStr te) (gName j) σ G x.cps.toList (upN j fun c => .str ⟨#[c]⟩) := fun H s _ R r =>
  h H s _ fun H1 e1 => ⟨x, rfl, r _ G H1 ((Stp.refl s).grow e1) ⟨fun H2 _ _ i c hc => by
    have hi : i < x.cps.size := by have := (List.getElem?_eq_some_iff.mp hc).1; simpa using this
    refine ⟨hi, fun v H3 y => ?_⟩
    obtain ⟨rfl, c', hc', rfl⟩ := y
    have : c' = c := by
      rw [← Array.getElem?_toList, hc] at hc'
      exact (Option.some.inj hc').symm
    subst this
    exact ⟨Same.refl _, fun σ' Q q => q _ (Same.refl _)⟩, fun H2 _ _ => by show x.cps.size ≤ _; simp⟩⟩
theorem gi_range1 {n : Nat} {ta : TE} (h : Gv ta σ G (.int (n : Int))) (hn : n < 1000000) : GI Pre (iRng1 (tCons ta tNil)) (gName j) σ G (List.range n) (upN j fun i => .int (i : Nat)) := fun H s _ R r =>
  h H s _ fun H1 e1 => ⟨(n : Int), rfl, by omega, by omega, r _ G H1 ((Stp.refl s).grow e1) ⟨fun H2 _ _ i d hd => by
    obtain ⟨hi, ed⟩ := List.getElem?_eq_some_iff.mp hd
    rw [List.length_range] at hi
    rw [List.getElem_range] at ed
    refine ⟨by show i < ((n : Int)).toNat; omega, fun v H3 y => ?_⟩
    obtain ⟨rfl, rfl⟩ := y
    subst ed
    rw [Int.zero_add]
    exact ⟨Same.refl _, fun σ' Q q => q _ (Same.refl _)⟩, fun H2 _ _ => by show ((n : Int)).toNat ≤ _; simp⟩⟩
theorem gi_keys {kvs : List (Key × V)} {kf : δ → Key × V} [hL : Lks Pre d kvs] (h : Gv td σ G (.ref d)) (hk : kvs = ds.map kf) : GI Pre (iKeys td) (gName j) σ G ds (upN j fun x => kV (kf x).1) := fun H s c R r =>
  h H s _ fun H1 e1 => by
    obtain ⟨ob, hd⟩ := Same.lk e1 (hL.lk H c)
    refine ⟨d, ob, rfl, .inl ⟨kvs, hd, r _ G H1 ((Stp.refl s).grow e1) ⟨fun H2 _ e2 i x hx => ?_, fun H2 _ e2 => ⟨e2 d _ _ hd, by rw [hk]; simp⟩⟩⟩⟩
    have hi : i < ds.length := (List.getElem?_eq_some_iff.mp hx).1
    refine ⟨⟨e2 d _ _ hd, by rw [hk]; simpa using hi⟩, fun v H3 y => ?_⟩
    obtain ⟨rfl, k, w, hkw, rfl⟩ := y
    rw [hk, List.getElem?_map, hx] at hkw
    have e : kf x = (k, w) := Option.some.inj hkw
    refine ⟨Same.refl _, fun σ' Q q => ?_⟩
    have z := q _ (Same.refl _)
    unfold upN at z
    dsimp only at z
    rw [e] at z
    exact z
theorem gi_vals {kvs : List (Key × V)} {kf : δ → Key × V} [hL : Lks Pre d kvs] (h : Gv td σ G (.ref d)) (hk : kvs = ds.map kf) : GI Pre (iVals td) (gName j) σ G ds (upN j fun x => (kf x).2) := fun H s c R r =>
  h H s _ fun H1 e1 => by
    obtain ⟨ob, hd⟩ := Same.lk e1 (hL.lk H c)
    refine ⟨d, ob, kvs, rfl, hd, r _ G H1 ((Stp.refl s).grow e1) ⟨fun H2 _ e2 i x hx => ?_, fun H2 _ e2 => ⟨e2 d _ _ hd, by rw [hk]; simp⟩⟩⟩
    have hi : i < ds.length := (List.getElem?_eq_some_iff.mp hx).1
    refine ⟨⟨e2 d _ _ hd, by rw [hk]; simpa using hi⟩, fun v H3 y => ?_⟩
    obtain ⟨rfl, k, hkw⟩ := y
    rw [hk, List.getElem?_map, hx] at hkw
    have e : kf x = (k, v) := Option.some.inj hkw
    refine ⟨Same.refl _, fun σ' Q q => ?_⟩
    have z := q _ (Same.refl _)
    unfold upN at z
    dsimp only at z
    rw [e] at z
    exact z
theorem gi_items {kvs : List (Key × V)} {kf : δ → Key × V} {i1 i2 : Nat} [hL : Lks Pre d kvs] (h : Gv td σ G (.ref d)) (hk : kvs = ds.map kf) : GI Pre (iItems td) (gTup K 2 (gCons (gName i1) (gCons (gName i2) gNil))) σ G ds (upN2 i1 i2 (fun x => kV (kf x).1) fun x => (kf x).2) := fun H s c R r =>
  h H s _ fun H1 e1 => by
    obtain ⟨ob, hd⟩ := Same.lk e1 (hL.lk H c)
    refine ⟨d, ob, kvs, rfl, hd, r _ G H1 ((Stp.refl s).grow e1) ⟨fun H2 _ e2 i x hx => ?_, fun H2 _ e2 => ⟨e2 d _ _ hd, by rw [hk]; simp⟩⟩⟩
    have hi : i < ds.length := (List.getElem?_eq_some_iff.mp hx).1
    refine ⟨⟨e2 d _ _ hd, by rw [hk]; simpa using hi⟩, fun v H3 y => ?_⟩
    obtain ⟨T, k, w, hkw, rfl, hT, rfl⟩ := y
    rw [hk, List.getElem?_map, hx] at hkw
    have e : kf x = (k, w) := Option.some.inj hkw
    refine ⟨Same.put hT, fun σ' Q q => ?_⟩
    have z := q _ (Same.refl _)
    unfold upN2 at z
    dsimp only at z
    rw [e] at z
    exact ⟨T, [kV k, w], rfl, SqT.of upd_same, rfl, _, _, rfl, _, _, rfl, rfl, z⟩
end

/-! ### relations item by item -/
inductive All2 {α β : Type} (R : α → β → Prop) : List α → List β → Prop where
  | nil : All2 R [] []
  | cons {a b l m} (h : R a b) (t : All2 R l m) : All2 R (a :: l) (b :: m)
theorem All2.length {α β : Type} {R : α → β → Prop} {l : List α} {m : List β} (h : All2 R l m) : l.length = m.length := by
  induction h with
  | nil => rfl
  | cons _ _ ih => simp [ih]
theorem All2.imp {α β : Type} {R S : α → β → Prop} {l : List α} {m : List β} (h : All2 R l m) (i : ∀ a b, a ∈ l → b ∈ m → R a b → S a b) : All2 S l m := by
  induction h with
  | nil => exact .nil
  | cons r _ ih => exact .cons (i _ _ List.mem_cons_self List.mem_cons_self r) (ih fun a b ha hb => i a b (List.mem_cons_of_mem _ ha) (List.mem_cons_of_mem _ hb))
theorem All2.snoc {α β : Type} {R : α → β → Prop} {l : List α} {m : List β} {a : α} {b : β} (h : All2 R l m) (r : R a b) : All2 R (l ++ [a]) (m ++ [b]) := by
  induction h with
  | nil => exact .cons r .nil
  | cons r' _ ih => exact .cons r' ih
theorem All2.at {α β : Type} {R : α → β → Prop} {l : List α} {m : List β} (h : All2 R l m) {i : Nat} {b : β} (e : m[i]? = some b) : ∃ a, l[i]? = some a ∧ R a b := by
  induction h generalizing i with
  | nil => simp at e
  | cons r _ ih =>
    cases i with
    | zero => simp at e; subst e; exact ⟨_, rfl, r⟩
    | succ i => exact ih (by simpa using e)
theorem All2.at1 {α β : Type} {R : α → β → Prop} {l : List α} {m : List β} (h : All2 R l m) {i : Nat} {a : α} (e : l[i]? = some a) : ∃ b, m[i]? = some b ∧ R a b := by
  induction h generalizing i with
  | nil => simp at e
  | cons r _ ih =>
    cases i with
    | zero => simp at e; subst e; exact ⟨_, rfl, r⟩
    | succ i => exact ih (by simpa using e)
theorem All2.mem {α β : Type} {R : α → β → Prop} {l : List α} {m : List β} (h : All2 R l m) {b : β} (e : b ∈ m) : ∃ a, a ∈ l ∧ R a b := by
  obtain ⟨i, hi, e⟩ := List.mem_iff_getElem.mp e
  obtain ⟨a, h1, h2⟩ := h.at (i := i) (b := b) (by rw [List.getElem?_eq_getElem hi, e])
  exact ⟨a, List.mem_of_getElem? h1, h2⟩
theorem All2.mem1 {α β : Type} {R : α → β → Prop} {l : List α} {m : List β} (h : All2 R l m) {a : α} (e : a ∈ l) : ∃ b, b ∈ m ∧ R a b := by
  obtain ⟨i, hi, e⟩ := List.mem_iff_getElem.mp e
  obtain ⟨b, h1, h2⟩ := h.at1 (i := i) (a := a) (by rw [List.getElem?_eq_getElem hi, e])
  exact ⟨b, List.mem_of_getElem? h1, h2⟩
/-- the two lists as one of pairs -/
theorem All2.zip {α β : Type} {R : α → β → Prop} {l : List α} {m : List β} (h : All2 R l m) : l = (l.zip m).map (·.1) ∧ m = (l.zip m).map (·.2) ∧ ∀ q ∈ l.zip m, R q.1 q.2 := by
  induction h with
  | nil => exact ⟨rfl, rfl, fun q hq => by simp at hq⟩
  | cons r _ ih =>
    refine ⟨by simp only [List.zip_cons_cons, List.map_cons]; rw [← ih.1], by simp only [List.zip_cons_cons, List.map_cons]; rw [← ih.2.1], fun q hq => ?_⟩
    rw [List.zip_cons_cons] at hq
    rcases List.mem_cons.mp hq with rfl | hq
    · exact r
    · exact ih.2.2 q hq
theorem All2.of_map {α β γ : Type} {R : α → β → Prop} {f : γ → α} {g : γ → β} : ∀ {l : List γ}, (∀ c ∈ l, R (f c) (g c)) → All2 R (l.map f) (l.map g)
  | [], _ => .nil
  | c :: l, h => .cons (h c List.mem_cons_self) (All2.of_map fun x hx => h x (List.mem_cons_of_mem _ hx))

/-! ### list comprehensions -/
section
variable {δ : Type} {σ : L2.St} {G : Hp} {ds : List δ} {up : δ → L2.St → L2.St} {wi : TI} {g : TG} {tt : TT} {te tk tv : TE} {vs : List Nat} {Pre : Hp → Prop} {pf : δ → Bool}
theorem take_snoc {l : List δ} {i : Nat} {d : δ} (h : l[i]? = some d) : l.take (i + 1) = l.take i ++ [d] := by
  obtain ⟨hi, e⟩ := List.getElem?_eq_some_iff.mp h
  rw [List.take_succ, List.getElem?_eq_getElem hi, e]
  rfl
/-- the comprehension's list is made item by item; R says of each item what it is, over the known part (which grows) -/
theorem gm_lc (R : δ → V → Hp → Prop) (hR : ∀ d v G1 G2, Same G1 G2 → R d v G1 → R d v G2) (hi : GI Pre wi g σ G ds up) (hz : ds.length ≤ 100000) (hw : ∀ d ∈ ds, wipe (up d (wipe σ vs)) vs = wipe σ vs)
    (ht : ∀ d ∈ ds, ∀ G', Same G G' → Gt tt (up d (wipe σ vs)) G' (pf d)) (he : ∀ d ∈ ds, pf d = true → ∀ G', Same G G' → Gx Pre te (up d (wipe σ vs)) G' (R d)) (hP : ∀ H H', Same H H' → Pre H → Pre H') :
    Gm Pre (tLc wi g tt te vs) σ G fun o G' => ∃ xs, o = .lst xs ∧ All2 (fun d v => R d v G') (ds.filter pf) xs := fun H s c Q q =>
  hi H s c _ fun J G1 H1 st1 wk D hD => by
    refine ⟨fun i m H2 => m = ds.length - i ∧ i ≤ ds.length ∧ ∃ G2 xs, Stp G1 H1 G2 H2 ∧ G2 D = none ∧ H2 D = some (.lst xs) ∧ All2 (fun d v => R d v G2) ((ds.take i).filter pf) xs,
      ⟨ds.length, by simp, Nat.zero_le _, G1, [], (Stp.refl st1.sub).hide hD, st1.sub.non hD, upd_same, .nil⟩, ?_⟩
    rintro i m H2 ⟨rfl, hil, G2, xs, st, gD, hD2, al⟩
    by_cases hlt : i < ds.length
    · have hd : ds[i]? = some ds[i] := List.getElem?_eq_getElem hlt
      generalize ds[i] = d at hd
      have dm : d ∈ ds := List.mem_of_getElem? hd
      obtain ⟨go, turn⟩ := wk.go H2 (st.sub.less st.ex) (Same.frz st.keep) i d hd
      refine .inr ⟨go, fun H' => ∃ m', m' < ds.length - i ∧ (m' = ds.length - (i + 1) ∧ i + 1 ≤ ds.length ∧ ∃ G2 xs, Stp G1 H1 G2 H' ∧ G2 D = none ∧ H' D = some (.lst xs) ∧ All2 (fun d v => R d v G2) ((ds.take (i + 1)).filter pf) xs), fun H' z => z, fun x H3 y => ?_⟩
      obtain ⟨e3, asg⟩ := turn x H3 y
      refine asg (wipe σ vs) _ fun H4 e4 => ⟨hw d dm, ?_⟩
      have st4 : Stp G1 H1 G2 H4 := st.grow (e3.trans e4)
      have hD4 : H4 D = some (.lst xs) := e4 D _ (e3 D _ hD2)
      refine ht d dm G2 (st1.ex.trans st.ex) H4 st4.sub _ fun H5 e5 => ?_
      have st5 := st4.grow e5
      have hD5 := e5 D _ hD4
      have lenx : xs.length ≤ i := by
        rw [← al.length]
        exact Nat.le_trans (List.length_filter_le _ _) (by rw [List.length_take]; omega)
      cases hp : pf d with
      | true =>
        simp only [if_true]
        refine he d dm hp G2 (st1.ex.trans st.ex) H5 st5.sub (hP _ _ (st1.keep.trans st5.keep) c) _ fun v G6 H6 st6 rv => ⟨xs, st6.keep D _ hD5, Nat.lt_of_le_of_lt lenx (Nat.lt_of_lt_of_le (Nat.lt_of_lt_of_le hlt hz) (by decide)), ds.length - (i + 1), by omega, rfl, hlt, G6, xs ++ [v], ?_, ?_, upd_same, ?_⟩
        · have gD6 := st6.new D gD (by rw [hD5]; simp)
          exact (st5.trans st6).write gD6 hD
        · exact st6.new D gD (by rw [hD5]; simp)
        · rw [take_snoc hd, List.filter_append]
          have e : [d].filter pf = [d] := by simp [hp]
          rw [e]
          exact (al.imp fun a b _ _ r => hR a b _ _ st6.ex r).snoc rv
      | false =>
        simp only [Bool.false_eq_true, if_false]
        refine ⟨ds.length - (i + 1), by omega, rfl, hlt, G2, xs, st5, gD, hD5, ?_⟩
        rw [take_snoc hd, List.filter_append]
        have e : [d].filter pf = [] := by simp [hp]
        rw [e, List.append_nil]
        exact al
    · have ei : i = ds.length := by omega
      subst ei
      rw [List.take_length] at al
      exact .inl ⟨wk.stop H2 (st.sub.less st.ex) (Same.frz st.keep), q D _ G2 H2 (st1.trans st) (st1.keep.free hD) gD hD2 ⟨xs, rfl, al⟩⟩
/-- items told by a function -/
theorem all2_fn {f : δ → V} {l : List δ} {xs : List V} (h : All2 (fun d v => v = f d) l xs) : xs = l.map f := by
  induction h with
  | nil => rfl
  | cons r _ ih => rw [List.map_cons, ← ih, r]
theorem gm_lcV (f : δ → V) (hi : GI Pre wi g σ G ds up) (hz : ds.length ≤ 100000) (hw : ∀ d ∈ ds, wipe (up d (wipe σ vs)) vs = wipe σ vs)
    (ht : ∀ d ∈ ds, Gt tt (up d (wipe σ vs)) G (pf d)) (he : ∀ d ∈ ds, pf d = true → Gv te (up d (wipe σ vs)) G (f d)) (hP : ∀ H H', Same H H' → Pre H → Pre H') :
    Gm Pre (tLc wi g tt te vs) σ G fun o _ => o = .lst ((ds.filter pf).map f) := fun H s c Q q =>
  gm_lc (fun d v _ => v = f d) (fun _ _ _ _ _ r => r) hi hz hw (fun d dm G' e => (ht d dm).less e) (fun d dm hp G' e => fun H s c Q q => ((he d dm hp).less e) H s Q fun H' e => q _ G' H' ((Stp.refl s).grow e) rfl) hP H s c Q
    fun p o G' H' st h0 gp h' ⟨xs, eo, al⟩ => q p o G' H' st h0 gp h' (by rw [eo, all2_fn al])
theorem gl_lc (f : δ → V) (hi : GI Fr0 wi g σ G ds up) (hz : ds.length ≤ 100000) (hw : ∀ d ∈ ds, wipe (up d (wipe σ vs)) vs = wipe σ vs)
    (ht : ∀ d ∈ ds, Gt tt (up d (wipe σ vs)) G (pf d)) (he : ∀ d ∈ ds, pf d = true → Gv te (up d (wipe σ vs)) G (f d)) : Gls (tLc wi g tt te vs) σ G ((ds.filter pf).map f) :=
  (gm_lcV f hi hz hw ht he fun _ _ _ _ => trivial).gn
theorem gl_lcK {d : Addr} {kvs : List (Key × V)} (gd : G d = some (.dK kvs)) (f : δ → V) (hi : GI (Lk d kvs) wi g σ G ds up) (hz : ds.length ≤ 100000) (hw : ∀ d ∈ ds, wipe (up d (wipe σ vs)) vs = wipe σ vs)
    (ht : ∀ d ∈ ds, Gt tt (up d (wipe σ vs)) G (pf d)) (he : ∀ d ∈ ds, pf d = true → Gv te (up d (wipe σ vs)) G (f d)) : Gls (tLk (tLc wi g tt te vs)) σ G ((ds.filter pf).map f) :=
  (gm_lk gd (gm_lcV f hi hz hw ht he fun _ _ e c => Same.lk e c)).gn
/-! ### dict comprehensions -/
theorem gm_dc (kf : δ → Key) (R : δ → V → Hp → Prop) (hR : ∀ d v G1 G2, Same G1 G2 → R d v G1 → R d v G2) (hi : GI Pre wi g σ G ds up) (hz : ds.length ≤ 100000) (hw : ∀ d ∈ ds, wipe (up d (wipe σ vs)) vs = wipe σ vs) (hn : (ds.map kf).Nodup)
    (hk : ∀ d ∈ ds, ∀ G', Same G G' → Gv tk (up d (wipe σ vs)) G' (kV (kf d))) (he : ∀ d ∈ ds, ∀ G', Same G G' → Gx Pre tv (up d (wipe σ vs)) G' (R d)) (hP : ∀ H H', Same H H' → Pre H → Pre H') :
    Gm Pre (tDc wi g tYes tk tv vs) σ G fun o G' => ∃ kvs, o = .dK kvs ∧ All2 (fun d (kv : Key × V) => kv.1 = kf d ∧ R d kv.2 G') ds kvs := fun H s c Q q =>
  hi H s c _ fun J G1 H1 st1 wk D hD => by
    refine ⟨fun i m H2 => m = ds.length - i ∧ i ≤ ds.length ∧ ∃ G2 xs, Stp G1 H1 G2 H2 ∧ G2 D = none ∧ H2 D = some (.dK xs) ∧ All2 (fun d (kv : Key × V) => kv.1 = kf d ∧ R d kv.2 G2) (ds.take i) xs,
      ⟨ds.length, by simp, Nat.zero_le _, G1, [], (Stp.refl st1.sub).hide hD, st1.sub.non hD, upd_same, .nil⟩, ?_⟩
    rintro i m H2 ⟨rfl, hil, G2, xs, st, gD, hD2, al⟩
    by_cases hlt : i < ds.length
    · have hd : ds[i]? = some ds[i] := List.getElem?_eq_getElem hlt
      generalize ds[i] = d at hd
      have dm : d ∈ ds := List.mem_of_getElem? hd
      obtain ⟨go, turn⟩ := wk.go H2 (st.sub.less st.ex) (Same.frz st.keep) i d hd
      refine .inr ⟨go, fun H' => ∃ m', m' < ds.length - i ∧ (m' = ds.length - (i + 1) ∧ i + 1 ≤ ds.length ∧ ∃ G2 xs, Stp G1 H1 G2 H' ∧ G2 D = none ∧ H' D = some (.dK xs) ∧ All2 (fun d (kv : Key × V) => kv.1 = kf d ∧ R d kv.2 G2) (ds.take (i + 1)) xs), fun H' z => z, fun x H3 y => ?_⟩
      obtain ⟨e3, asg⟩ := turn x H3 y
      refine asg (wipe σ vs) _ fun H4 e4 => ⟨hw d dm, ?_⟩
      have st4 : Stp G1 H1 G2 H4 := st.grow (e3.trans e4)
      have hD4 : H4 D = some (.dK xs) := e4 D _ (e3 D _ hD2)
      simp only [if_true]
      refine hk d dm G2 (st1.ex.trans st.ex) H4 st4.sub _ fun H5 e5 => ?_
      have st5 := st4.grow e5
      have hD5 := e5 D _ hD4
      have lenx : xs.length ≤ i := by
        rw [← al.length, List.length_take]
        omega
      refine he d dm G2 (st1.ex.trans st.ex) H5 st5.sub (hP _ _ (st1.keep.trans st5.keep) c) _ fun v G6 H6 st6 rv => ⟨xs, kf d, rfl, st6.keep D _ hD5, Nat.lt_of_le_of_lt lenx (Nat.lt_of_lt_of_le (Nat.lt_of_lt_of_le hlt hz) (by decide)), ds.length - (i + 1), by omega, rfl, hlt, G6, xs ++ [(kf d, v)], ?_, ?_, ?_, ?_⟩
      · have gD6 := st6.new D gD (by rw [hD5]; simp)
        exact (st5.trans st6).write gD6 hD
      · exact st6.new D gD (by rw [hD5]; simp)
      · have nk : valV xs (kf d) = none := by
          cases z : valV xs (kf d) with
          | none => rfl
          | some w =>
            exfalso
            have hm : ∃ kv ∈ xs, kv.1 = kf d := by
              unfold valV at z
              cases f : xs.find? fun kv => decide (kv.1 = kf d) with
              | none => rw [f] at z; cases z
              | some kv => exact ⟨kv, List.mem_of_find?_eq_some f, by simpa using List.find?_some f⟩
            obtain ⟨kv, hm, ek⟩ := hm
            obtain ⟨d', hd', r'⟩ := al.mem hm
            obtain ⟨j, hj, ej⟩ := List.mem_iff_getElem.mp hd'
            rw [List.length_take] at hj
            have hj' : (ds.map kf)[j]? = some (kf d) := by
              rw [List.getElem?_map, List.getElem?_eq_getElem (by omega)]
              rw [List.getElem_take] at ej
              rw [ej]
              show some (kf d') = _
              rw [← r'.1, ek]
            have hi' : (ds.map kf)[i]? = some (kf d) := by rw [List.getElem?_map, hd] <;> rfl
            obtain ⟨p1, q1⟩ := List.getElem?_eq_some_iff.mp hj'
            obtain ⟨p2, q2⟩ := List.getElem?_eq_some_iff.mp hi'
            have := (List.getElem_inj hn).mp (q1.trans q2.symm)
            omega
        show upd H6 D (HO.dK (putK xs (kf d) v)) D = _
        rw [upd_same, putK_new v nk]
      · rw [take_snoc hd]
        exact (al.imp fun a b _ _ r => ⟨r.1, hR a _ _ _ st6.ex r.2⟩).snoc ⟨rfl, rv⟩
    · have ei : i = ds.length := by omega
      subst ei
      rw [List.take_length] at al
      exact .inl ⟨wk.stop H2 (st.sub.less st.ex) (Same.frz st.keep), q D _ G2 H2 (st1.trans st) (st1.keep.free hD) gD hD2 ⟨xs, rfl, al⟩⟩
end
end K25

/-! K2 -/
/-! K2 (printed by gen_text.py): the text by places, facts, contracts. -/
namespace K25
open PySem PySem.Spec PyProof.Rows L2
def topS (i : Nat) : Stmt := PySem.Challenge.pw_endchecks_k25_whole_parts_apart.main.body.getD i (.Pass ⟨0, 0, 0, 0⟩)
abbrev s_is_name : Stmt := topS 3
abbrev s_is_new_id : Stmt := topS 4
abbrev s_is_id : Stmt := topS 5
abbrev s_is_tag_name : Stmt := topS 6
abbrev s_is_field : Stmt := topS 8
abbrev s_fields_of : Stmt := topS 9
abbrev s_sort_of : Stmt := topS 10
abbrev s_is_test : Stmt := topS 11
abbrev s_is_tests : Stmt := topS 12
abbrev s_passes : Stmt := topS 13
abbrev s_meets : Stmt := topS 14
abbrev s_copied_test : Stmt := topS 15
abbrev s_copied_tests : Stmt := topS 16
abbrev s_are_tables : Stmt := topS 26
abbrev s_has_field : Stmt := topS 27
abbrev s_is_rule : Stmt := topS 28
abbrev s_copied_rule : Stmt := topS 29
abbrev s_copied_field : Stmt := topS 30
abbrev s_sharing : Stmt := topS 36
abbrev s_is_kept_by : Stmt := topS 37
abbrev s_spots : Stmt := topS 38
abbrev s_holds : Stmt := topS 39
abbrev s_neighbours : Stmt := topS 40
abbrev s_reached : Stmt := topS 41
abbrev s_apart : Stmt := topS 42
abbrev s_w_bag : Stmt := topS 44
abbrev s_w_take : Stmt := topS 45
abbrev s_w_alike : Stmt := topS 46
abbrev s_w_names : Stmt := topS 47
abbrev s_w_fields : Stmt := topS 48
abbrev s_w_like : Stmt := topS 49
abbrev s_w_tests : Stmt := topS 50
abbrev s_w_one_rule : Stmt := topS 51
abbrev s_w_parts : Stmt := topS 52
abbrev s_w_rows : Stmt := topS 53
abbrev s_w_tables : Stmt := topS 54
abbrev s_w_rows_of : Stmt := topS 55
abbrev s_w_near : Stmt := topS 56
abbrev s_w_groups : Stmt := topS 57
abbrev s_w_joins : Stmt := topS 58
abbrev s_w_changed : Stmt := topS 59
abbrev s_law : Stmt := topS 60
abbrev s_Schema_init : Stmt := inClass (topS 31) 0
abbrev s_Schema_tables : Stmt := inClass (topS 31) 1
abbrev s_Schema_fields_like : Stmt := inClass (topS 31) 3
abbrev s_Schema_links : Stmt := inClass (topS 31) 5
abbrev s_Schema_tags : Stmt := inClass (topS 31) 6
abbrev s_Schema_leads_to : Stmt := inClass (topS 31) 8
abbrev s_Schema_names : Stmt := inClass (topS 31) 10
abbrev s_Schema_rank_of : Stmt := inClass (topS 31) 11
abbrev s_Schema_rule_of : Stmt := inClass (topS 31) 12
abbrev s_Schema_is_value : Stmt := inClass (topS 31) 13
abbrev s_Schema_is_row : Stmt := inClass (topS 31) 14
abbrev s_Schema_eq : Stmt := inClass (topS 31) 18
abbrev s_Tables_init : Stmt := inClass (topS 34) 0
abbrev s_Tables_has_row : Stmt := inClass (topS 34) 2
abbrev s_Tables_getitem : Stmt := inClass (topS 34) 5
abbrev s_Tables_setitem : Stmt := inClass (topS 34) 6
abbrev s_Tables_drop : Stmt := inClass (topS 34) 7
abbrev s_Tables_rows : Stmt := inClass (topS 34) 8
abbrev s_Tables_ids : Stmt := inClass (topS 34) 9
abbrev s_Tables_len : Stmt := inClass (topS 34) 10
abbrev s_Tables_table_of : Stmt := inClass (topS 34) 11
abbrev s_Tables_target : Stmt := inClass (topS 34) 12
abbrev s_Tables_schema : Stmt := inClass (topS 34) 1
def d_is_name : He.DefD := ⟨("is_name", none), "is_name", "is_name", defArgs s_is_name, defBody s_is_name, defScope s_is_name, [], []⟩
def d_is_new_id : He.DefD := ⟨("is_new_id", none), "is_new_id", "is_new_id", defArgs s_is_new_id, defBody s_is_new_id, defScope s_is_new_id, [], []⟩
def d_is_id : He.DefD := ⟨("is_id", none), "is_id", "is_id", defArgs s_is_id, defBody s_is_id, defScope s_is_id, [], []⟩
def d_is_tag_name : He.DefD := ⟨("is_tag_name", none), "is_tag_name", "is_tag_name", defArgs s_is_tag_name, defBody s_is_tag_name, defScope s_is_tag_name, [], []⟩
def d_is_field : He.DefD := ⟨("is_field", none), "is_field", "is_field", defArgs s_is_field, defBody s_is_field, defScope s_is_field, [], []⟩
def d_fields_of : He.DefD := ⟨("fields_of", none), "fields_of", "fields_of", defArgs s_fields_of, defBody s_fields_of, defScope s_fields_of, [], []⟩
def d_sort_of : He.DefD := ⟨("sort_of", none), "sort_of", "sort_of", defArgs s_sort_of, defBody s_sort_of, defScope s_sort_of, [], []⟩
def d_is_test : He.DefD := ⟨("is_test", none), "is_test", "is_test", defArgs s_is_test, defBody s_is_test, defScope s_is_test, [], []⟩
def d_is_tests : He.DefD := ⟨("is_tests", none), "is_tests", "is_tests", defArgs s_is_tests, defBody s_is_tests, defScope s_is_tests, [], []⟩
def d_passes : He.DefD := ⟨("passes", none), "passes", "passes", defArgs s_passes, defBody s_passes, defScope s_passes, [], []⟩
def d_meets : He.DefD := ⟨("meets", none), "meets", "meets", defArgs s_meets, defBody s_meets, defScope s_meets, [], []⟩
def d_copied_test : He.DefD := ⟨("copied_test", none), "copied_test", "copied_test", defArgs s_copied_test, defBody s_copied_test, defScope s_copied_test, [], []⟩
def d_copied_tests : He.DefD := ⟨("copied_tests", none), "copied_tests", "copied_tests", defArgs s_copied_tests, defBody s_copied_tests, defScope s_copied_tests, [], []⟩
def d_are_tables : He.DefD := ⟨("are_tables", none), "are_tables", "are_tables", defArgs s_are_tables, defBody s_are_tables, defScope s_are_tables, [], []⟩
def d_has_field : He.DefD := ⟨("has_field", none), "has_field", "has_field", defArgs s_has_field, defBody s_has_field, defScope s_has_field, [], []⟩
def d_is_rule : He.DefD := ⟨("is_rule", none), "is_rule", "is_rule", defArgs s_is_rule, defBody s_is_rule, defScope s_is_rule, [], []⟩
def d_copied_rule : He.DefD := ⟨("copied_rule", none), "copied_rule", "copied_rule", defArgs s_copied_rule, defBody s_copied_rule, defScope s_copied_rule, [], []⟩
def d_copied_field : He.DefD := ⟨("copied_field", none), "copied_field", "copied_field", defArgs s_copied_field, defBody s_copied_field, defScope s_copied_field, [], []⟩
def d_sharing : He.DefD := ⟨("sharing", none), "sharing", "sharing", defArgs s_sharing, defBody s_sharing, defScope s_sharing, [], []⟩
def d_is_kept_by : He.DefD := ⟨("is_kept_by", none), "is_kept_by", "is_kept_by", defArgs s_is_kept_by, defBody s_is_kept_by, defScope s_is_kept_by, [], []⟩
def d_spots : He.DefD := ⟨("spots", none), "spots", "spots", defArgs s_spots, defBody s_spots, defScope s_spots, [], []⟩
def d_holds : He.DefD := ⟨("holds", none), "holds", "holds", defArgs s_holds, defBody s_holds, defScope s_holds, [], []⟩
def d_neighbours : He.DefD := ⟨("neighbours", none), "neighbours", "neighbours", defArgs s_neighbours, defBody s_neighbours, defScope s_neighbours, [], []⟩
def d_reached : He.DefD := ⟨("reached", none), "reached", "reached", defArgs s_reached, defBody s_reached, defScope s_reached, [], []⟩
def d_apart : He.DefD := ⟨("apart", none), "apart", "apart", defArgs s_apart, defBody s_apart, defScope s_apart, [], []⟩
def d_w_bag : He.DefD := ⟨("_law_bag", none), "_law_bag", "_law_bag", defArgs s_w_bag, defBody s_w_bag, defScope s_w_bag, [], []⟩
def d_w_take : He.DefD := ⟨("_law_take", none), "_law_take", "_law_take", defArgs s_w_take, defBody s_w_take, defScope s_w_take, [], []⟩
def d_w_alike : He.DefD := ⟨("_law_alike", none), "_law_alike", "_law_alike", defArgs s_w_alike, defBody s_w_alike, defScope s_w_alike, [], []⟩
def d_w_names : He.DefD := ⟨("_law_names", none), "_law_names", "_law_names", defArgs s_w_names, defBody s_w_names, defScope s_w_names, [], []⟩
def d_w_fields : He.DefD := ⟨("_law_fields", none), "_law_fields", "_law_fields", defArgs s_w_fields, defBody s_w_fields, defScope s_w_fields, [], []⟩
def d_w_like : He.DefD := ⟨("_law_like", none), "_law_like", "_law_like", defArgs s_w_like, defBody s_w_like, defScope s_w_like, [], []⟩
def d_w_tests : He.DefD := ⟨("_law_tests", none), "_law_tests", "_law_tests", defArgs s_w_tests, defBody s_w_tests, defScope s_w_tests, [], []⟩
def d_w_one_rule : He.DefD := ⟨("_law_one_rule", none), "_law_one_rule", "_law_one_rule", defArgs s_w_one_rule, defBody s_w_one_rule, defScope s_w_one_rule, [], []⟩
def d_w_parts : He.DefD := ⟨("_law_parts", none), "_law_parts", "_law_parts", defArgs s_w_parts, defBody s_w_parts, defScope s_w_parts, [], []⟩
def d_w_rows : He.DefD := ⟨("_law_rows", none), "_law_rows", "_law_rows", defArgs s_w_rows, defBody s_w_rows, defScope s_w_rows, [], []⟩
def d_w_tables : He.DefD := ⟨("_law_tables", none), "_law_tables", "_law_tables", defArgs s_w_tables, defBody s_w_tables, defScope s_w_tables, [], []⟩
def d_w_rows_of : He.DefD := ⟨("_law_rows_of", none), "_law_rows_of", "_law_rows_of", defArgs s_w_rows_of, defBody s_w_rows_of, defScope s_w_rows_of, [], []⟩
def d_w_near : He.DefD := ⟨("_law_near", none), "_law_near", "_law_near", defArgs s_w_near, defBody s_w_near, defScope s_w_near, [], []⟩
def d_w_groups : He.DefD := ⟨("_law_groups", none), "_law_groups", "_law_groups", defArgs s_w_groups, defBody s_w_groups, defScope s_w_groups, [], []⟩
def d_w_joins : He.DefD := ⟨("_law_joins", none), "_law_joins", "_law_joins", defArgs s_w_joins, defBody s_w_joins, defScope s_w_joins, [], []⟩
def d_w_changed : He.DefD := ⟨("_law_changed", none), "_law_changed", "_law_changed", defArgs s_w_changed, defBody s_w_changed, defScope s_w_changed, [], []⟩
def d_law : He.DefD := ⟨("law", none), "law", "law", defArgs s_law, defBody s_law, defScope s_law, [], []⟩
def d_Schema_init : He.DefD := ⟨("Schema", some "__init__"), "__init__", "Schema.__init__", defArgs s_Schema_init, defBody s_Schema_init, defScope s_Schema_init, [.adr (He.dflAt ("Schema", some "__init__") 0)], []⟩
def d_Schema_tables : He.DefD := ⟨("Schema", some "tables"), "tables", "Schema.tables", defArgs s_Schema_tables, defBody s_Schema_tables, defScope s_Schema_tables, [], []⟩
def d_Schema_fields_like : He.DefD := ⟨("Schema", some "fields_like"), "fields_like", "Schema.fields_like", defArgs s_Schema_fields_like, defBody s_Schema_fields_like, defScope s_Schema_fields_like, [], []⟩
def d_Schema_links : He.DefD := ⟨("Schema", some "links"), "links", "Schema.links", defArgs s_Schema_links, defBody s_Schema_links, defScope s_Schema_links, [], []⟩
def d_Schema_tags : He.DefD := ⟨("Schema", some "tags"), "tags", "Schema.tags", defArgs s_Schema_tags, defBody s_Schema_tags, defScope s_Schema_tags, [], []⟩
def d_Schema_leads_to : He.DefD := ⟨("Schema", some "leads_to"), "leads_to", "Schema.leads_to", defArgs s_Schema_leads_to, defBody s_Schema_leads_to, defScope s_Schema_leads_to, [], []⟩
def d_Schema_names : He.DefD := ⟨("Schema", some "names"), "names", "Schema.names", defArgs s_Schema_names, defBody s_Schema_names, defScope s_Schema_names, [], []⟩
def d_Schema_rank_of : He.DefD := ⟨("Schema", some "rank_of"), "rank_of", "Schema.rank_of", defArgs s_Schema_rank_of, defBody s_Schema_rank_of, defScope s_Schema_rank_of, [], []⟩
def d_Schema_rule_of : He.DefD := ⟨("Schema", some "rule_of"), "rule_of", "Schema.rule_of", defArgs s_Schema_rule_of, defBody s_Schema_rule_of, defScope s_Schema_rule_of, [], []⟩
def d_Schema_is_value : He.DefD := ⟨("Schema", some "is_value"), "is_value", "Schema.is_value", defArgs s_Schema_is_value, defBody s_Schema_is_value, defScope s_Schema_is_value, [], []⟩
def d_Schema_is_row : He.DefD := ⟨("Schema", some "is_row"), "is_row", "Schema.is_row", defArgs s_Schema_is_row, defBody s_Schema_is_row, defScope s_Schema_is_row, [], []⟩
def d_Schema_eq : He.DefD := ⟨("Schema", some "__eq__"), "__eq__", "Schema.__eq__", defArgs s_Schema_eq, defBody s_Schema_eq, defScope s_Schema_eq, [], []⟩
def d_Tables_init : He.DefD := ⟨("Tables", some "__init__"), "__init__", "Tables.__init__", defArgs s_Tables_init, defBody s_Tables_init, defScope s_Tables_init, [], []⟩
def d_Tables_has_row : He.DefD := ⟨("Tables", some "has_row"), "has_row", "Tables.has_row", defArgs s_Tables_has_row, defBody s_Tables_has_row, defScope s_Tables_has_row, [], []⟩
def d_Tables_getitem : He.DefD := ⟨("Tables", some "__getitem__"), "__getitem__", "Tables.__getitem__", defArgs s_Tables_getitem, defBody s_Tables_getitem, defScope s_Tables_getitem, [], []⟩
def d_Tables_setitem : He.DefD := ⟨("Tables", some "__setitem__"), "__setitem__", "Tables.__setitem__", defArgs s_Tables_setitem, defBody s_Tables_setitem, defScope s_Tables_setitem, [], []⟩
def d_Tables_drop : He.DefD := ⟨("Tables", some "drop"), "drop", "Tables.drop", defArgs s_Tables_drop, defBody s_Tables_drop, defScope s_Tables_drop, [], []⟩
def d_Tables_rows : He.DefD := ⟨("Tables", some "rows"), "rows", "Tables.rows", defArgs s_Tables_rows, defBody s_Tables_rows, defScope s_Tables_rows, [], []⟩
def d_Tables_ids : He.DefD := ⟨("Tables", some "ids"), "ids", "Tables.ids", defArgs s_Tables_ids, defBody s_Tables_ids, defScope s_Tables_ids, [], []⟩
def d_Tables_len : He.DefD := ⟨("Tables", some "__len__"), "__len__", "Tables.__len__", defArgs s_Tables_len, defBody s_Tables_len, defScope s_Tables_len, [], []⟩
def d_Tables_table_of : He.DefD := ⟨("Tables", some "table_of"), "table_of", "Tables.table_of", defArgs s_Tables_table_of, defBody s_Tables_table_of, defScope s_Tables_table_of, [], []⟩
def d_Tables_target : He.DefD := ⟨("Tables", some "target"), "target", "Tables.target", defArgs s_Tables_target, defBody s_Tables_target, defScope s_Tables_target, [], []⟩
def fn : List He.DefD := [d_is_name, d_is_new_id, d_is_id, d_is_tag_name, d_is_field, d_fields_of, d_sort_of, d_is_test, d_is_tests, d_passes, d_meets, d_copied_test, d_copied_tests, d_are_tables, d_has_field, d_is_rule, d_copied_rule, d_copied_field, d_sharing, d_is_kept_by, d_spots, d_holds, d_neighbours, d_reached, d_apart, d_w_bag, d_w_take, d_w_alike, d_w_names, d_w_fields, d_w_like, d_w_tests, d_w_one_rule, d_w_parts, d_w_rows, d_w_tables, d_w_rows_of, d_w_near, d_w_groups, d_w_joins, d_w_changed, d_law, d_Schema_init, d_Schema_tables, d_Schema_fields_like, d_Schema_links, d_Schema_tags, d_Schema_leads_to, d_Schema_names, d_Schema_rank_of, d_Schema_rule_of, d_Schema_is_value, d_Schema_is_row, d_Schema_eq, d_Tables_init, d_Tables_has_row, d_Tables_getitem, d_Tables_setitem, d_Tables_drop, d_Tables_rows, d_Tables_ids, d_Tables_len, d_Tables_table_of, d_Tables_target]
def fa : List He.Fa := [.glo "is_name", .glo "is_new_id", .glo "is_id", .glo "is_tag_name", .glo "is_field", .glo "fields_of", .glo "sort_of", .glo "is_test", .glo "is_tests", .glo "passes", .glo "meets", .glo "copied_test", .glo "copied_tests", .glo "are_tables", .glo "has_field", .glo "is_rule", .glo "copied_rule", .glo "copied_field", .glo "sharing", .glo "is_kept_by", .glo "spots", .glo "holds", .glo "neighbours", .glo "reached", .glo "apart", .glo "_law_bag", .glo "_law_take", .glo "_law_alike", .glo "_law_names", .glo "_law_fields", .glo "_law_like", .glo "_law_tests", .glo "_law_one_rule", .glo "_law_parts", .glo "_law_rows", .glo "_law_tables", .glo "_law_rows_of", .glo "_law_near", .glo "_law_groups", .glo "_law_joins", .glo "_law_changed", .glo "law", .glo "Schema", .glo "Tables", .free "isinstance", .free "len", .free "all", .free "any", .free "sorted", .free "list", .free "dict", .free "set", .free "max", .free "abs", .free "int", .free "sum", .free "repr", .free "range", .free "str", .free "tuple", .free "enumerate", .str "LETTERS" "abcdefghijklmnopqrstuvwxyz", .int "MOST_ROWS" 200, .cls "Schema", .cls "Tables", .noat "Schema" "kept_tables", .noat "Schema" "kept_rules", .noat "Tables" "its_schema", .noat "Tables" "kept", .meth "Schema" "tables", .meth "Schema" "fields_like", .meth "Schema" "links", .meth "Schema" "tags", .meth "Schema" "leads_to", .meth "Schema" "names", .meth "Schema" "rank_of", .meth "Schema" "rule_of", .meth "Schema" "is_value", .meth "Schema" "is_row", .meth "Schema" "__eq__", .meth "Tables" "has_row", .meth "Tables" "__getitem__", .meth "Tables" "__setitem__", .meth "Tables" "drop", .meth "Tables" "rows", .meth "Tables" "ids", .meth "Tables" "__len__", .meth "Tables" "table_of", .meth "Tables" "target", .mkr "Schema", .mkr "Tables"]
/-- the property's getter -/
def gPr (K : PySem.W.Frag) : Addr := match PySem.W.recIn K (He.ma K (He.ga K "Tables") "schema") "property" with
  | some (.ref g :: _) => g
  | _ => 0
def fnWa (K : PySem.W.Frag) (a : Addr) : He.FnW := match K.lookup a with
  | some ⟨_, _, .func fd, _⟩ => some (fd.name, fd.qualname, fd.params, fd.body, fd.scope, fd.globals, fd.closure, fd.builtins)
  | _ => none
def fdA (K : PySem.W.Frag) (a : Addr) : FuncData := match K.lookup a with
  | some ⟨_, _, .func fd, _⟩ => fd
  | _ => PySem.W.fnOf "" "" (defArgs (.Pass ⟨0, 0, 0, 0⟩)) [] (defScope (.Pass ⟨0, 0, 0, 0⟩)) .none .none .none .none none .none .none
/-- isinstance of an own class; the property; the getter's code -/
def exB (K : PySem.W.Frag) : Bool :=
  He.eqO (PySem.W.findIn K (.ref (He.ga K "Schema")) "__class__") (some (some (.builtin "object.__class__"))) && (decide (PySem.W.specialIn K (.builtin "object.__class__") "__get__" = some (some (.builtin "getset_descriptor.__get__"))) &&
  (decide (PySem.W.takesIn K (.builtin "object.__class__") = some true) && (decide (PySem.W.mroIn K (He.ga K "Schema") (.type "object") = some true) && (decide (PySem.W.kitOne K (.ref (He.ga K "Schema")) (.ref (He.ga K "Schema")) = some true) &&
  (He.eqO (PySem.W.findIn K (.ref (He.ga K "Tables")) "schema") (some (some (.ref (He.ma K (He.ga K "Tables") "schema")))) && (decide (PySem.W.specialIn K (.ref (He.ma K (He.ga K "Tables") "schema")) "__get__" = some (some (.builtin "property.__get__"))) &&
  (decide (PySem.W.takesIn K (.ref (He.ma K (He.ga K "Tables") "schema")) = some true) && ((match PySem.W.recIn K (He.ma K (He.ga K "Tables") "schema") "property" with
    | some (.ref _ :: _) => true
    | _ => false) && (PySem.W.keepIn K (.ref (gPr K)) && (match K.lookup (gPr K) with
    | some ⟨_, _, .func fd, _⟩ => PySem.W.codeIn K fd.code "Tables.schema" && He.dflB K fd.defaults []
    | _ => false) && (PySem.W.noSeq K (He.ga K "Tables") && He.eqO (PySem.W.findIn K (.ref (He.ga K "Schema")) "__ne__") (some (some (.builtin "object.__ne__")))))))))))))
abbrev AlK : Type := He.AlD × Bool × He.FnW
def obsK (K : PySem.W.Frag) : AlK := (He.obsD fa fn K, exB K, fnWa K (gPr K))
def valK : AlK := (He.valD fn, true, some ("schema", "Tables.schema", defArgs s_Tables_schema, .stmts (defBody s_Tables_schema), defScope s_Tables_schema, mainGlobals, [], builtinsNs))
def obsKG (g : Addr → Option Obj) : AlK := obsK (He.frG g (He.asD g 6))
def hookK : PySem.W.Hook where
  α := AlK
  obs := fun s => obsKG s.heap.get?
  val := fun _ => valK
  says := fun _ h => ∃ K : PySem.W.Frag, K.In h ∧ obsK K = valK
  of := fun _ _ e => ⟨_, He.frG_in, e⟩
  keeps := fun _ _ _ ⟨K, hK, c⟩ k => ⟨K, PySem.W.Frag.In.keeps hK k, c⟩
/-- what is known of the module behind its top -/
structure Tx (K : PySem.W.Frag) (mg : Str → Option Value) : Prop where
  ex : ∃ h : Heap, K.In h ∧ h.Ns mainGlobals mg
  c : obsK K = valK
section
variable {K : PySem.W.Frag} {mg : Str → Option Value}
theorem Tx.d (T : Tx K mg) : He.SaysD fa fn K := congrArg (fun z : AlK => z.1) T.c
theorem Tx.xb (T : Tx K mg) : exB K = true := congrArg (fun z : AlK => z.2.1) T.c
theorem fdA_of {K : PySem.W.Frag} {name qual : Str} {pa : Arguments} {bd : List Stmt} {sc : Scope} {dvs : List V} {kws : List (Str × V)} {f : Addr} {fd : FuncData} (F : FunD K name qual pa bd sc dvs kws f fd) : FunD K name qual pa bd sc dvs kws f (fdA K f) := by
  obtain ⟨oc, od, dV, kV, doc, pm, an, cdv, ct, osl, e, lk, r⟩ := id F.ex
  have e2 : fdA K f = fd := by unfold fdA; rw [lk]
  rw [e2]
  exact F
theorem Tx.g_is_name (T : Tx K mg) : mg "is_name" = some (.ref (He.ga K "is_name")) := let ⟨_, X, G⟩ := T.ex; He.glo_ok X G (T.d.fact 0 (f := .glo "is_name") rfl)
theorem Tx.g_is_new_id (T : Tx K mg) : mg "is_new_id" = some (.ref (He.ga K "is_new_id")) := let ⟨_, X, G⟩ := T.ex; He.glo_ok X G (T.d.fact 1 (f := .glo "is_new_id") rfl)
theorem Tx.g_is_id (T : Tx K mg) : mg "is_id" = some (.ref (He.ga K "is_id")) := let ⟨_, X, G⟩ := T.ex; He.glo_ok X G (T.d.fact 2 (f := .glo "is_id") rfl)
theorem Tx.g_is_tag_name (T : Tx K mg) : mg "is_tag_name" = some (.ref (He.ga K "is_tag_name")) := let ⟨_, X, G⟩ := T.ex; He.glo_ok X G (T.d.fact 3 (f := .glo "is_tag_name") rfl)
theorem Tx.g_is_field (T : Tx K mg) : mg "is_field" = some (.ref (He.ga K "is_field")) := let ⟨_, X, G⟩ := T.ex; He.glo_ok X G (T.d.fact 4 (f := .glo "is_field") rfl)
theorem Tx.g_fields_of (T : Tx K mg) : mg "fields_of" = some (.ref (He.ga K "fields_of")) := let ⟨_, X, G⟩ := T.ex; He.glo_ok X G (T.d.fact 5 (f := .glo "fields_of") rfl)
theorem Tx.g_sort_of (T : Tx K mg) : mg "sort_of" = some (.ref (He.ga K "sort_of")) := let ⟨_, X, G⟩ := T.ex; He.glo_ok X G (T.d.fact 6 (f := .glo "sort_of") rfl)
theorem Tx.g_is_test (T : Tx K mg) : mg "is_test" = some (.ref (He.ga K "is_test")) := let ⟨_, X, G⟩ := T.ex; He.glo_ok X G (T.d.fact 7 (f := .glo "is_test") rfl)
theorem Tx.g_is_tests (T : Tx K mg) : mg "is_tests" = some (.ref (He.ga K "is_tests")) := let ⟨_, X, G⟩ := T.ex; He.glo_ok X G (T.d.fact 8 (f := .glo "is_tests") rfl)
theorem Tx.g_passes (T : Tx K mg) : mg "passes" = some (.ref (He.ga K "passes")) := let ⟨_, X, G⟩ := T.ex; He.glo_ok X G (T.d.fact 9 (f := .glo "passes") rfl)
theorem Tx.g_meets (T : Tx K mg) : mg "meets" = some (.ref (He.ga K "meets")) := let ⟨_, X, G⟩ := T.ex; He.glo_ok X G (T.d.fact 10 (f := .glo "meets") rfl)
theorem Tx.g_copied_test (T : Tx K mg) : mg "copied_test" = some (.ref (He.ga K "copied_test")) := let ⟨_, X, G⟩ := T.ex; He.glo_ok X G (T.d.fact 11 (f := .glo "copied_test") rfl)
theorem Tx.g_copied_tests (T : Tx K mg) : mg "copied_tests" = some (.ref (He.ga K "copied_tests")) := let ⟨_, X, G⟩ := T.ex; He.glo_ok X G (T.d.fact 12 (f := .glo "copied_tests") rfl)
theorem Tx.g_are_tables (T : Tx K mg) : mg "are_tables" = some (.ref (He.ga K "are_tables")) := let ⟨_, X, G⟩ := T.ex; He.glo_ok X G (T.d.fact 13 (f := .glo "are_tables") rfl)
theorem Tx.g_has_field (T : Tx K mg) : mg "has_field" = some (.ref (He.ga K "has_field")) := let ⟨_, X, G⟩ := T.ex; He.glo_ok X G (T.d.fact 14 (f := .glo "has_field") rfl)
theorem Tx.g_is_rule (T : Tx K mg) : mg "is_rule" = some (.ref (He.ga K "is_rule")) := let ⟨_, X, G⟩ := T.ex; He.glo_ok X G (T.d.fact 15 (f := .glo "is_rule") rfl)
theorem Tx.g_copied_rule (T : Tx K mg) : mg "copied_rule" = some (.ref (He.ga K "copied_rule")) := let ⟨_, X, G⟩ := T.ex; He.glo_ok X G (T.d.fact 16 (f := .glo "copied_rule") rfl)
theorem Tx.g_copied_field (T : Tx K mg) : mg "copied_field" = some (.ref (He.ga K "copied_field")) := let ⟨_, X, G⟩ := T.ex; He.glo_ok X G (T.d.fact 17 (f := .glo "copied_field") rfl)
theorem Tx.g_sharing (T : Tx K mg) : mg "sharing" = some (.ref (He.ga K "sharing")) := let ⟨_, X, G⟩ := T.ex; He.glo_ok X G (T.d.fact 18 (f := .glo "sharing") rfl)
theorem Tx.g_is_kept_by (T : Tx K mg) : mg "is_kept_by" = some (.ref (He.ga K "is_kept_by")) := let ⟨_, X, G⟩ := T.ex; He.glo_ok X G (T.d.fact 19 (f := .glo "is_kept_by") rfl)
theorem Tx.g_spots (T : Tx K mg) : mg "spots" = some (.ref (He.ga K "spots")) := let ⟨_, X, G⟩ := T.ex; He.glo_ok X G (T.d.fact 20 (f := .glo "spots") rfl)
theorem Tx.g_holds (T : Tx K mg) : mg "holds" = some (.ref (He.ga K "holds")) := let ⟨_, X, G⟩ := T.ex; He.glo_ok X G (T.d.fact 21 (f := .glo "holds") rfl)
theorem Tx.g_neighbours (T : Tx K mg) : mg "neighbours" = some (.ref (He.ga K "neighbours")) := let ⟨_, X, G⟩ := T.ex; He.glo_ok X G (T.d.fact 22 (f := .glo "neighbours") rfl)
theorem Tx.g_reached (T : Tx K mg) : mg "reached" = some (.ref (He.ga K "reached")) := let ⟨_, X, G⟩ := T.ex; He.glo_ok X G (T.d.fact 23 (f := .glo "reached") rfl)
theorem Tx.g_apart (T : Tx K mg) : mg "apart" = some (.ref (He.ga K "apart")) := let ⟨_, X, G⟩ := T.ex; He.glo_ok X G (T.d.fact 24 (f := .glo "apart") rfl)
theorem Tx.g_w_bag (T : Tx K mg) : mg "_law_bag" = some (.ref (He.ga K "_law_bag")) := let ⟨_, X, G⟩ := T.ex; He.glo_ok X G (T.d.fact 25 (f := .glo "_law_bag") rfl)
theorem Tx.g_w_take (T : Tx K mg) : mg "_law_take" = some (.ref (He.ga K "_law_take")) := let ⟨_, X, G⟩ := T.ex; He.glo_ok X G (T.d.fact 26 (f := .glo "_law_take") rfl)
theorem Tx.g_w_alike (T : Tx K mg) : mg "_law_alike" = some (.ref (He.ga K "_law_alike")) := let ⟨_, X, G⟩ := T.ex; He.glo_ok X G (T.d.fact 27 (f := .glo "_law_alike") rfl)
theorem Tx.g_w_names (T : Tx K mg) : mg "_law_names" = some (.ref (He.ga K "_law_names")) := let ⟨_, X, G⟩ := T.ex; He.glo_ok X G (T.d.fact 28 (f := .glo "_law_names") rfl)
theorem Tx.g_w_fields (T : Tx K mg) : mg "_law_fields" = some (.ref (He.ga K "_law_fields")) := let ⟨_, X, G⟩ := T.ex; He.glo_ok X G (T.d.fact 29 (f := .glo "_law_fields") rfl)
theorem Tx.g_w_like (T : Tx K mg) : mg "_law_like" = some (.ref (He.ga K "_law_like")) := let ⟨_, X, G⟩ := T.ex; He.glo_ok X G (T.d.fact 30 (f := .glo "_law_like") rfl)
theorem Tx.g_w_tests (T : Tx K mg) : mg "_law_tests" = some (.ref (He.ga K "_law_tests")) := let ⟨_, X, G⟩ := T.ex; He.glo_ok X G (T.d.fact 31 (f := .glo "_law_tests") rfl)
theorem Tx.g_w_one_rule (T : Tx K mg) : mg "_law_one_rule" = some (.ref (He.ga K "_law_one_rule")) := let ⟨_, X, G⟩ := T.ex; He.glo_ok X G (T.d.fact 32 (f := .glo "_law_one_rule") rfl)
theorem Tx.g_w_parts (T : Tx K mg) : mg "_law_parts" = some (.ref (He.ga K "_law_parts")) := let ⟨_, X, G⟩ := T.ex; He.glo_ok X G (T.d.fact 33 (f := .glo "_law_parts") rfl)
theorem Tx.g_w_rows (T : Tx K mg) : mg "_law_rows" = some (.ref (He.ga K "_law_rows")) := let ⟨_, X, G⟩ := T.ex; He.glo_ok X G (T.d.fact 34 (f := .glo "_law_rows") rfl)
theorem Tx.g_w_tables (T : Tx K mg) : mg "_law_tables" = some (.ref (He.ga K "_law_tables")) := let ⟨_, X, G⟩ := T.ex; He.glo_ok X G (T.d.fact 35 (f := .glo "_law_tables") rfl)
theorem Tx.g_w_rows_of (T : Tx K mg) : mg "_law_rows_of" = some (.ref (He.ga K "_law_rows_of")) := let ⟨_, X, G⟩ := T.ex; He.glo_ok X G (T.d.fact 36 (f := .glo "_law_rows_of") rfl)
theorem Tx.g_w_near (T : Tx K mg) : mg "_law_near" = some (.ref (He.ga K "_law_near")) := let ⟨_, X, G⟩ := T.ex; He.glo_ok X G (T.d.fact 37 (f := .glo "_law_near") rfl)
theorem Tx.g_w_groups (T : Tx K mg) : mg "_law_groups" = some (.ref (He.ga K "_law_groups")) := let ⟨_, X, G⟩ := T.ex; He.glo_ok X G (T.d.fact 38 (f := .glo "_law_groups") rfl)
theorem Tx.g_w_joins (T : Tx K mg) : mg "_law_joins" = some (.ref (He.ga K "_law_joins")) := let ⟨_, X, G⟩ := T.ex; He.glo_ok X G (T.d.fact 39 (f := .glo "_law_joins") rfl)
theorem Tx.g_w_changed (T : Tx K mg) : mg "_law_changed" = some (.ref (He.ga K "_law_changed")) := let ⟨_, X, G⟩ := T.ex; He.glo_ok X G (T.d.fact 40 (f := .glo "_law_changed") rfl)
theorem Tx.g_law (T : Tx K mg) : mg "law" = some (.ref (He.ga K "law")) := let ⟨_, X, G⟩ := T.ex; He.glo_ok X G (T.d.fact 41 (f := .glo "law") rfl)
theorem Tx.g_Schema (T : Tx K mg) : mg "Schema" = some (.ref (He.ga K "Schema")) := let ⟨_, X, G⟩ := T.ex; He.glo_ok X G (T.d.fact 42 (f := .glo "Schema") rfl)
theorem Tx.g_Tables (T : Tx K mg) : mg "Tables" = some (.ref (He.ga K "Tables")) := let ⟨_, X, G⟩ := T.ex; He.glo_ok X G (T.d.fact 43 (f := .glo "Tables") rfl)
theorem Tx.b_isinstance (T : Tx K mg) : mg "isinstance" = none := let ⟨_, X, G⟩ := T.ex; He.free_ok X G (T.d.fact 44 (f := .free "isinstance") rfl)
theorem Tx.b_len (T : Tx K mg) : mg "len" = none := let ⟨_, X, G⟩ := T.ex; He.free_ok X G (T.d.fact 45 (f := .free "len") rfl)
theorem Tx.b_all (T : Tx K mg) : mg "all" = none := let ⟨_, X, G⟩ := T.ex; He.free_ok X G (T.d.fact 46 (f := .free "all") rfl)
theorem Tx.b_any (T : Tx K mg) : mg "any" = none := let ⟨_, X, G⟩ := T.ex; He.free_ok X G (T.d.fact 47 (f := .free "any") rfl)
theorem Tx.b_sorted (T : Tx K mg) : mg "sorted" = none := let ⟨_, X, G⟩ := T.ex; He.free_ok X G (T.d.fact 48 (f := .free "sorted") rfl)
theorem Tx.b_list (T : Tx K mg) : mg "list" = none := let ⟨_, X, G⟩ := T.ex; He.free_ok X G (T.d.fact 49 (f := .free "list") rfl)
theorem Tx.b_dict (T : Tx K mg) : mg "dict" = none := let ⟨_, X, G⟩ := T.ex; He.free_ok X G (T.d.fact 50 (f := .free "dict") rfl)
theorem Tx.b_set (T : Tx K mg) : mg "set" = none := let ⟨_, X, G⟩ := T.ex; He.free_ok X G (T.d.fact 51 (f := .free "set") rfl)
theorem Tx.b_max (T : Tx K mg) : mg "max" = none := let ⟨_, X, G⟩ := T.ex; He.free_ok X G (T.d.fact 52 (f := .free "max") rfl)
theorem Tx.b_abs (T : Tx K mg) : mg "abs" = none := let ⟨_, X, G⟩ := T.ex; He.free_ok X G (T.d.fact 53 (f := .free "abs") rfl)
theorem Tx.b_int (T : Tx K mg) : mg "int" = none := let ⟨_, X, G⟩ := T.ex; He.free_ok X G (T.d.fact 54 (f := .free "int") rfl)
theorem Tx.b_sum (T : Tx K mg) : mg "sum" = none := let ⟨_, X, G⟩ := T.ex; He.free_ok X G (T.d.fact 55 (f := .free "sum") rfl)
theorem Tx.b_repr (T : Tx K mg) : mg "repr" = none := let ⟨_, X, G⟩ := T.ex; He.free_ok X G (T.d.fact 56 (f := .free "repr") rfl)
theorem Tx.b_range (T : Tx K mg) : mg "range" = none := let ⟨_, X, G⟩ := T.ex; He.free_ok X G (T.d.fact 57 (f := .free "range") rfl)
theorem Tx.b_str (T : Tx K mg) : mg "str" = none := let ⟨_, X, G⟩ := T.ex; He.free_ok X G (T.d.fact 58 (f := .free "str") rfl)
theorem Tx.b_tuple (T : Tx K mg) : mg "tuple" = none := let ⟨_, X, G⟩ := T.ex; He.free_ok X G (T.d.fact 59 (f := .free "tuple") rfl)
theorem Tx.b_enumerate (T : Tx K mg) : mg "enumerate" = none := let ⟨_, X, G⟩ := T.ex; He.free_ok X G (T.d.fact 60 (f := .free "enumerate") rfl)
theorem Tx.LETTERS (T : Tx K mg) : ∃ t, mg "LETTERS" = some (.str "abcdefghijklmnopqrstuvwxyz" t) := let ⟨_, X, G⟩ := T.ex; He.str_ok X G (T.d.fact 61 (f := .str "LETTERS" "abcdefghijklmnopqrstuvwxyz") rfl)
theorem Tx.MOST (T : Tx K mg) : ∃ t, mg "MOST_ROWS" = some (.int 200 t) := let ⟨_, X, G⟩ := T.ex; He.int_ok X G (T.d.fact 62 (f := .int "MOST_ROWS" 200) rfl)
theorem Tx.cl_Schema (T : Tx K mg) : Cls K (He.ga K "Schema") := He.cls_ok (T.d.fact 63 (f := .cls "Schema") rfl)
theorem Tx.cl_Tables (T : Tx K mg) : Cls K (He.ga K "Tables") := He.cls_ok (T.d.fact 64 (f := .cls "Tables") rfl)
theorem Tx.na_kept_tables (T : Tx K mg) : NoAttr K (He.ga K "Schema") "kept_tables" := He.noat_ok (T.d.fact 65 (f := .noat "Schema" "kept_tables") rfl)
theorem Tx.na_kept_rules (T : Tx K mg) : NoAttr K (He.ga K "Schema") "kept_rules" := He.noat_ok (T.d.fact 66 (f := .noat "Schema" "kept_rules") rfl)
theorem Tx.na_its_schema (T : Tx K mg) : NoAttr K (He.ga K "Tables") "its_schema" := He.noat_ok (T.d.fact 67 (f := .noat "Tables" "its_schema") rfl)
theorem Tx.na_kept (T : Tx K mg) : NoAttr K (He.ga K "Tables") "kept" := He.noat_ok (T.d.fact 68 (f := .noat "Tables" "kept") rfl)
theorem Tx.m_Schema_tables (T : Tx K mg) : Meth K (He.ga K "Schema") "tables" (He.ma K (He.ga K "Schema") "tables") := He.meth_ok (T.d.fact 69 (f := .meth "Schema" "tables") rfl)
theorem Tx.m_Schema_fields_like (T : Tx K mg) : Meth K (He.ga K "Schema") "fields_like" (He.ma K (He.ga K "Schema") "fields_like") := He.meth_ok (T.d.fact 70 (f := .meth "Schema" "fields_like") rfl)
theorem Tx.m_Schema_links (T : Tx K mg) : Meth K (He.ga K "Schema") "links" (He.ma K (He.ga K "Schema") "links") := He.meth_ok (T.d.fact 71 (f := .meth "Schema" "links") rfl)
theorem Tx.m_Schema_tags (T : Tx K mg) : Meth K (He.ga K "Schema") "tags" (He.ma K (He.ga K "Schema") "tags") := He.meth_ok (T.d.fact 72 (f := .meth "Schema" "tags") rfl)
theorem Tx.m_Schema_leads_to (T : Tx K mg) : Meth K (He.ga K "Schema") "leads_to" (He.ma K (He.ga K "Schema") "leads_to") := He.meth_ok (T.d.fact 73 (f := .meth "Schema" "leads_to") rfl)
theorem Tx.m_Schema_names (T : Tx K mg) : Meth K (He.ga K "Schema") "names" (He.ma K (He.ga K "Schema") "names") := He.meth_ok (T.d.fact 74 (f := .meth "Schema" "names") rfl)
theorem Tx.m_Schema_rank_of (T : Tx K mg) : Meth K (He.ga K "Schema") "rank_of" (He.ma K (He.ga K "Schema") "rank_of") := He.meth_ok (T.d.fact 75 (f := .meth "Schema" "rank_of") rfl)
theorem Tx.m_Schema_rule_of (T : Tx K mg) : Meth K (He.ga K "Schema") "rule_of" (He.ma K (He.ga K "Schema") "rule_of") := He.meth_ok (T.d.fact 76 (f := .meth "Schema" "rule_of") rfl)
theorem Tx.m_Schema_is_value (T : Tx K mg) : Meth K (He.ga K "Schema") "is_value" (He.ma K (He.ga K "Schema") "is_value") := He.meth_ok (T.d.fact 77 (f := .meth "Schema" "is_value") rfl)
theorem Tx.m_Schema_is_row (T : Tx K mg) : Meth K (He.ga K "Schema") "is_row" (He.ma K (He.ga K "Schema") "is_row") := He.meth_ok (T.d.fact 78 (f := .meth "Schema" "is_row") rfl)
theorem Tx.m_Schema_eq (T : Tx K mg) : Meth K (He.ga K "Schema") "__eq__" (He.ma K (He.ga K "Schema") "__eq__") := He.meth_ok (T.d.fact 79 (f := .meth "Schema" "__eq__") rfl)
theorem Tx.m_Tables_has_row (T : Tx K mg) : Meth K (He.ga K "Tables") "has_row" (He.ma K (He.ga K "Tables") "has_row") := He.meth_ok (T.d.fact 80 (f := .meth "Tables" "has_row") rfl)
theorem Tx.m_Tables_getitem (T : Tx K mg) : Meth K (He.ga K "Tables") "__getitem__" (He.ma K (He.ga K "Tables") "__getitem__") := He.meth_ok (T.d.fact 81 (f := .meth "Tables" "__getitem__") rfl)
theorem Tx.m_Tables_setitem (T : Tx K mg) : Meth K (He.ga K "Tables") "__setitem__" (He.ma K (He.ga K "Tables") "__setitem__") := He.meth_ok (T.d.fact 82 (f := .meth "Tables" "__setitem__") rfl)
theorem Tx.m_Tables_drop (T : Tx K mg) : Meth K (He.ga K "Tables") "drop" (He.ma K (He.ga K "Tables") "drop") := He.meth_ok (T.d.fact 83 (f := .meth "Tables" "drop") rfl)
theorem Tx.m_Tables_rows (T : Tx K mg) : Meth K (He.ga K "Tables") "rows" (He.ma K (He.ga K "Tables") "rows") := He.meth_ok (T.d.fact 84 (f := .meth "Tables" "rows") rfl)
theorem Tx.m_Tables_ids (T : Tx K mg) : Meth K (He.ga K "Tables") "ids" (He.ma K (He.ga K "Tables") "ids") := He.meth_ok (T.d.fact 85 (f := .meth "Tables" "ids") rfl)
theorem Tx.m_Tables_len (T : Tx K mg) : Meth K (He.ga K "Tables") "__len__" (He.ma K (He.ga K "Tables") "__len__") := He.meth_ok (T.d.fact 86 (f := .meth "Tables" "__len__") rfl)
theorem Tx.m_Tables_table_of (T : Tx K mg) : Meth K (He.ga K "Tables") "table_of" (He.ma K (He.ga K "Tables") "table_of") := He.meth_ok (T.d.fact 87 (f := .meth "Tables" "table_of") rfl)
theorem Tx.m_Tables_target (T : Tx K mg) : Meth K (He.ga K "Tables") "target" (He.ma K (He.ga K "Tables") "target") := He.meth_ok (T.d.fact 88 (f := .meth "Tables" "target") rfl)
theorem Tx.mk_Schema (T : Tx K mg) : Mk K (He.ga K "Schema") (He.ma K (He.ga K "Schema") "__init__") := He.mkr_ok (T.d.fact 89 (f := .mkr "Schema") rfl)
theorem Tx.mk_Tables (T : Tx K mg) : Mk K (He.ga K "Tables") (He.ma K (He.ga K "Tables") "__init__") := He.mkr_ok (T.d.fact 90 (f := .mkr "Tables") rfl)
theorem Tx.f_is_name (T : Tx K mg) : FunD K d_is_name.name d_is_name.qual (defArgs s_is_name) (defBody s_is_name) (defScope s_is_name) (d_is_name.dvs K) [] (He.fAd K d_is_name.at_) (fdA K (He.fAd K d_is_name.at_)) := let ⟨_, F⟩ := T.d.def_ 0 (d := d_is_name) rfl; fdA_of F
theorem Tx.f_is_new_id (T : Tx K mg) : FunD K d_is_new_id.name d_is_new_id.qual (defArgs s_is_new_id) (defBody s_is_new_id) (defScope s_is_new_id) (d_is_new_id.dvs K) [] (He.fAd K d_is_new_id.at_) (fdA K (He.fAd K d_is_new_id.at_)) := let ⟨_, F⟩ := T.d.def_ 1 (d := d_is_new_id) rfl; fdA_of F
theorem Tx.f_is_id (T : Tx K mg) : FunD K d_is_id.name d_is_id.qual (defArgs s_is_id) (defBody s_is_id) (defScope s_is_id) (d_is_id.dvs K) [] (He.fAd K d_is_id.at_) (fdA K (He.fAd K d_is_id.at_)) := let ⟨_, F⟩ := T.d.def_ 2 (d := d_is_id) rfl; fdA_of F
theorem Tx.f_is_tag_name (T : Tx K mg) : FunD K d_is_tag_name.name d_is_tag_name.qual (defArgs s_is_tag_name) (defBody s_is_tag_name) (defScope s_is_tag_name) (d_is_tag_name.dvs K) [] (He.fAd K d_is_tag_name.at_) (fdA K (He.fAd K d_is_tag_name.at_)) := let ⟨_, F⟩ := T.d.def_ 3 (d := d_is_tag_name) rfl; fdA_of F
theorem Tx.f_is_field (T : Tx K mg) : FunD K d_is_field.name d_is_field.qual (defArgs s_is_field) (defBody s_is_field) (defScope s_is_field) (d_is_field.dvs K) [] (He.fAd K d_is_field.at_) (fdA K (He.fAd K d_is_field.at_)) := let ⟨_, F⟩ := T.d.def_ 4 (d := d_is_field) rfl; fdA_of F
theorem Tx.f_fields_of (T : Tx K mg) : FunD K d_fields_of.name d_fields_of.qual (defArgs s_fields_of) (defBody s_fields_of) (defScope s_fields_of) (d_fields_of.dvs K) [] (He.fAd K d_fields_of.at_) (fdA K (He.fAd K d_fields_of.at_)) := let ⟨_, F⟩ := T.d.def_ 5 (d := d_fields_of) rfl; fdA_of F
theorem Tx.f_sort_of (T : Tx K mg) : FunD K d_sort_of.name d_sort_of.qual (defArgs s_sort_of) (defBody s_sort_of) (defScope s_sort_of) (d_sort_of.dvs K) [] (He.fAd K d_sort_of.at_) (fdA K (He.fAd K d_sort_of.at_)) := let ⟨_, F⟩ := T.d.def_ 6 (d := d_sort_of) rfl; fdA_of F
theorem Tx.f_is_test (T : Tx K mg) : FunD K d_is_test.name d_is_test.qual (defArgs s_is_test) (defBody s_is_test) (defScope s_is_test) (d_is_test.dvs K) [] (He.fAd K d_is_test.at_) (fdA K (He.fAd K d_is_test.at_)) := let ⟨_, F⟩ := T.d.def_ 7 (d := d_is_test) rfl; fdA_of F
theorem Tx.f_is_tests (T : Tx K mg) : FunD K d_is_tests.name d_is_tests.qual (defArgs s_is_tests) (defBody s_is_tests) (defScope s_is_tests) (d_is_tests.dvs K) [] (He.fAd K d_is_tests.at_) (fdA K (He.fAd K d_is_tests.at_)) := let ⟨_, F⟩ := T.d.def_ 8 (d := d_is_tests) rfl; fdA_of F
theorem Tx.f_passes (T : Tx K mg) : FunD K d_passes.name d_passes.qual (defArgs s_passes) (defBody s_passes) (defScope s_passes) (d_passes.dvs K) [] (He.fAd K d_passes.at_) (fdA K (He.fAd K d_passes.at_)) := let ⟨_, F⟩ := T.d.def_ 9 (d := d_passes) rfl; fdA_of F
theorem Tx.f_meets (T : Tx K mg) : FunD K d_meets.name d_meets.qual (defArgs s_meets) (defBody s_meets) (defScope s_meets) (d_meets.dvs K) [] (He.fAd K d_meets.at_) (fdA K (He.fAd K d_meets.at_)) := let ⟨_, F⟩ := T.d.def_ 10 (d := d_meets) rfl; fdA_of F
theorem Tx.f_copied_test (T : Tx K mg) : FunD K d_copied_test.name d_copied_test.qual (defArgs s_copied_test) (defBody s_copied_test) (defScope s_copied_test) (d_copied_test.dvs K) [] (He.fAd K d_copied_test.at_) (fdA K (He.fAd K d_copied_test.at_)) := let ⟨_, F⟩ := T.d.def_ 11 (d := d_copied_test) rfl; fdA_of F
theorem Tx.f_copied_tests (T : Tx K mg) : FunD K d_copied_tests.name d_copied_tests.qual (defArgs s_copied_tests) (defBody s_copied_tests) (defScope s_copied_tests) (d_copied_tests.dvs K) [] (He.fAd K d_copied_tests.at_) (fdA K (He.fAd K d_copied_tests.at_)) := let ⟨_, F⟩ := T.d.def_ 12 (d := d_copied_tests) rfl; fdA_of F
theorem Tx.f_are_tables (T : Tx K mg) : FunD K d_are_tables.name d_are_tables.qual (defArgs s_are_tables) (defBody s_are_tables) (defScope s_are_tables) (d_are_tables.dvs K) [] (He.fAd K d_are_tables.at_) (fdA K (He.fAd K d_are_tables.at_)) := let ⟨_, F⟩ := T.d.def_ 13 (d := d_are_tables) rfl; fdA_of F
theorem Tx.f_has_field (T : Tx K mg) : FunD K d_has_field.name d_has_field.qual (defArgs s_has_field) (defBody s_has_field) (defScope s_has_field) (d_has_field.dvs K) [] (He.fAd K d_has_field.at_) (fdA K (He.fAd K d_has_field.at_)) := let ⟨_, F⟩ := T.d.def_ 14 (d := d_has_field) rfl; fdA_of F
theorem Tx.f_is_rule (T : Tx K mg) : FunD K d_is_rule.name d_is_rule.qual (defArgs s_is_rule) (defBody s_is_rule) (defScope s_is_rule) (d_is_rule.dvs K) [] (He.fAd K d_is_rule.at_) (fdA K (He.fAd K d_is_rule.at_)) := let ⟨_, F⟩ := T.d.def_ 15 (d := d_is_rule) rfl; fdA_of F
theorem Tx.f_copied_rule (T : Tx K mg) : FunD K d_copied_rule.name d_copied_rule.qual (defArgs s_copied_rule) (defBody s_copied_rule) (defScope s_copied_rule) (d_copied_rule.dvs K) [] (He.fAd K d_copied_rule.at_) (fdA K (He.fAd K d_copied_rule.at_)) := let ⟨_, F⟩ := T.d.def_ 16 (d := d_copied_rule) rfl; fdA_of F
theorem Tx.f_copied_field (T : Tx K mg) : FunD K d_copied_field.name d_copied_field.qual (defArgs s_copied_field) (defBody s_copied_field) (defScope s_copied_field) (d_copied_field.dvs K) [] (He.fAd K d_copied_field.at_) (fdA K (He.fAd K d_copied_field.at_)) := let ⟨_, F⟩ := T.d.def_ 17 (d := d_copied_field) rfl; fdA_of F
theorem Tx.f_sharing (T : Tx K mg) : FunD K d_sharing.name d_sharing.qual (defArgs s_sharing) (defBody s_sharing) (defScope s_sharing) (d_sharing.dvs K) [] (He.fAd K d_sharing.at_) (fdA K (He.fAd K d_sharing.at_)) := let ⟨_, F⟩ := T.d.def_ 18 (d := d_sharing) rfl; fdA_of F
theorem Tx.f_is_kept_by (T : Tx K mg) : FunD K d_is_kept_by.name d_is_kept_by.qual (defArgs s_is_kept_by) (defBody s_is_kept_by) (defScope s_is_kept_by) (d_is_kept_by.dvs K) [] (He.fAd K d_is_kept_by.at_) (fdA K (He.fAd K d_is_kept_by.at_)) := let ⟨_, F⟩ := T.d.def_ 19 (d := d_is_kept_by) rfl; fdA_of F
theorem Tx.f_spots (T : Tx K mg) : FunD K d_spots.name d_spots.qual (defArgs s_spots) (defBody s_spots) (defScope s_spots) (d_spots.dvs K) [] (He.fAd K d_spots.at_) (fdA K (He.fAd K d_spots.at_)) := let ⟨_, F⟩ := T.d.def_ 20 (d := d_spots) rfl; fdA_of F
theorem Tx.f_holds (T : Tx K mg) : FunD K d_holds.name d_holds.qual (defArgs s_holds) (defBody s_holds) (defScope s_holds) (d_holds.dvs K) [] (He.fAd K d_holds.at_) (fdA K (He.fAd K d_holds.at_)) := let ⟨_, F⟩ := T.d.def_ 21 (d := d_holds) rfl; fdA_of F
theorem Tx.f_neighbours (T : Tx K mg) : FunD K d_neighbours.name d_neighbours.qual (defArgs s_neighbours) (defBody s_neighbours) (defScope s_neighbours) (d_neighbours.dvs K) [] (He.fAd K d_neighbours.at_) (fdA K (He.fAd K d_neighbours.at_)) := let ⟨_, F⟩ := T.d.def_ 22 (d := d_neighbours) rfl; fdA_of F
theorem Tx.f_reached (T : Tx K mg) : FunD K d_reached.name d_reached.qual (defArgs s_reached) (defBody s_reached) (defScope s_reached) (d_reached.dvs K) [] (He.fAd K d_reached.at_) (fdA K (He.fAd K d_reached.at_)) := let ⟨_, F⟩ := T.d.def_ 23 (d := d_reached) rfl; fdA_of F
theorem Tx.f_apart (T : Tx K mg) : FunD K d_apart.name d_apart.qual (defArgs s_apart) (defBody s_apart) (defScope s_apart) (d_apart.dvs K) [] (He.fAd K d_apart.at_) (fdA K (He.fAd K d_apart.at_)) := let ⟨_, F⟩ := T.d.def_ 24 (d := d_apart) rfl; fdA_of F
theorem Tx.f_w_bag (T : Tx K mg) : FunD K d_w_bag.name d_w_bag.qual (defArgs s_w_bag) (defBody s_w_bag) (defScope s_w_bag) (d_w_bag.dvs K) [] (He.fAd K d_w_bag.at_) (fdA K (He.fAd K d_w_bag.at_)) := let ⟨_, F⟩ := T.d.def_ 25 (d := d_w_bag) rfl; fdA_of F
theorem Tx.f_w_take (T : Tx K mg) : FunD K d_w_take.name d_w_take.qual (defArgs s_w_take) (defBody s_w_take) (defScope s_w_take) (d_w_take.dvs K) [] (He.fAd K d_w_take.at_) (fdA K (He.fAd K d_w_take.at_)) := let ⟨_, F⟩ := T.d.def_ 26 (d := d_w_take) rfl; fdA_of F
theorem Tx.f_w_alike (T : Tx K mg) : FunD K d_w_alike.name d_w_alike.qual (defArgs s_w_alike) (defBody s_w_alike) (defScope s_w_alike) (d_w_alike.dvs K) [] (He.fAd K d_w_alike.at_) (fdA K (He.fAd K d_w_alike.at_)) := let ⟨_, F⟩ := T.d.def_ 27 (d := d_w_alike) rfl; fdA_of F
theorem Tx.f_w_names (T : Tx K mg) : FunD K d_w_names.name d_w_names.qual (defArgs s_w_names) (defBody s_w_names) (defScope s_w_names) (d_w_names.dvs K) [] (He.fAd K d_w_names.at_) (fdA K (He.fAd K d_w_names.at_)) := let ⟨_, F⟩ := T.d.def_ 28 (d := d_w_names) rfl; fdA_of F
theorem Tx.f_w_fields (T : Tx K mg) : FunD K d_w_fields.name d_w_fields.qual (defArgs s_w_fields) (defBody s_w_fields) (defScope s_w_fields) (d_w_fields.dvs K) [] (He.fAd K d_w_fields.at_) (fdA K (He.fAd K d_w_fields.at_)) := let ⟨_, F⟩ := T.d.def_ 29 (d := d_w_fields) rfl; fdA_of F
theorem Tx.f_w_like (T : Tx K mg) : FunD K d_w_like.name d_w_like.qual (defArgs s_w_like) (defBody s_w_like) (defScope s_w_like) (d_w_like.dvs K) [] (He.fAd K d_w_like.at_) (fdA K (He.fAd K d_w_like.at_)) := let ⟨_, F⟩ := T.d.def_ 30 (d := d_w_like) rfl; fdA_of F
theorem Tx.f_w_tests (T : Tx K mg) : FunD K d_w_tests.name d_w_tests.qual (defArgs s_w_tests) (defBody s_w_tests) (defScope s_w_tests) (d_w_tests.dvs K) [] (He.fAd K d_w_tests.at_) (fdA K (He.fAd K d_w_tests.at_)) := let ⟨_, F⟩ := T.d.def_ 31 (d := d_w_tests) rfl; fdA_of F
theorem Tx.f_w_one_rule (T : Tx K mg) : FunD K d_w_one_rule.name d_w_one_rule.qual (defArgs s_w_one_rule) (defBody s_w_one_rule) (defScope s_w_one_rule) (d_w_one_rule.dvs K) [] (He.fAd K d_w_one_rule.at_) (fdA K (He.fAd K d_w_one_rule.at_)) := let ⟨_, F⟩ := T.d.def_ 32 (d := d_w_one_rule) rfl; fdA_of F
theorem Tx.f_w_parts (T : Tx K mg) : FunD K d_w_parts.name d_w_parts.qual (defArgs s_w_parts) (defBody s_w_parts) (defScope s_w_parts) (d_w_parts.dvs K) [] (He.fAd K d_w_parts.at_) (fdA K (He.fAd K d_w_parts.at_)) := let ⟨_, F⟩ := T.d.def_ 33 (d := d_w_parts) rfl; fdA_of F
theorem Tx.f_w_rows (T : Tx K mg) : FunD K d_w_rows.name d_w_rows.qual (defArgs s_w_rows) (defBody s_w_rows) (defScope s_w_rows) (d_w_rows.dvs K) [] (He.fAd K d_w_rows.at_) (fdA K (He.fAd K d_w_rows.at_)) := let ⟨_, F⟩ := T.d.def_ 34 (d := d_w_rows) rfl; fdA_of F
theorem Tx.f_w_tables (T : Tx K mg) : FunD K d_w_tables.name d_w_tables.qual (defArgs s_w_tables) (defBody s_w_tables) (defScope s_w_tables) (d_w_tables.dvs K) [] (He.fAd K d_w_tables.at_) (fdA K (He.fAd K d_w_tables.at_)) := let ⟨_, F⟩ := T.d.def_ 35 (d := d_w_tables) rfl; fdA_of F
theorem Tx.f_w_rows_of (T : Tx K mg) : FunD K d_w_rows_of.name d_w_rows_of.qual (defArgs s_w_rows_of) (defBody s_w_rows_of) (defScope s_w_rows_of) (d_w_rows_of.dvs K) [] (He.fAd K d_w_rows_of.at_) (fdA K (He.fAd K d_w_rows_of.at_)) := let ⟨_, F⟩ := T.d.def_ 36 (d := d_w_rows_of) rfl; fdA_of F
theorem Tx.f_w_near (T : Tx K mg) : FunD K d_w_near.name d_w_near.qual (defArgs s_w_near) (defBody s_w_near) (defScope s_w_near) (d_w_near.dvs K) [] (He.fAd K d_w_near.at_) (fdA K (He.fAd K d_w_near.at_)) := let ⟨_, F⟩ := T.d.def_ 37 (d := d_w_near) rfl; fdA_of F
theorem Tx.f_w_groups (T : Tx K mg) : FunD K d_w_groups.name d_w_groups.qual (defArgs s_w_groups) (defBody s_w_groups) (defScope s_w_groups) (d_w_groups.dvs K) [] (He.fAd K d_w_groups.at_) (fdA K (He.fAd K d_w_groups.at_)) := let ⟨_, F⟩ := T.d.def_ 38 (d := d_w_groups) rfl; fdA_of F
theorem Tx.f_w_joins (T : Tx K mg) : FunD K d_w_joins.name d_w_joins.qual (defArgs s_w_joins) (defBody s_w_joins) (defScope s_w_joins) (d_w_joins.dvs K) [] (He.fAd K d_w_joins.at_) (fdA K (He.fAd K d_w_joins.at_)) := let ⟨_, F⟩ := T.d.def_ 39 (d := d_w_joins) rfl; fdA_of F
theorem Tx.f_w_changed (T : Tx K mg) : FunD K d_w_changed.name d_w_changed.qual (defArgs s_w_changed) (defBody s_w_changed) (defScope s_w_changed) (d_w_changed.dvs K) [] (He.fAd K d_w_changed.at_) (fdA K (He.fAd K d_w_changed.at_)) := let ⟨_, F⟩ := T.d.def_ 40 (d := d_w_changed) rfl; fdA_of F
theorem Tx.f_law (T : Tx K mg) : FunD K d_law.name d_law.qual (defArgs s_law) (defBody s_law) (defScope s_law) (d_law.dvs K) [] (He.fAd K d_law.at_) (fdA K (He.fAd K d_law.at_)) := let ⟨_, F⟩ := T.d.def_ 41 (d := d_law) rfl; fdA_of F
theorem Tx.f_Schema_init (T : Tx K mg) : FunD K d_Schema_init.name d_Schema_init.qual (defArgs s_Schema_init) (defBody s_Schema_init) (defScope s_Schema_init) (d_Schema_init.dvs K) [] (He.fAd K d_Schema_init.at_) (fdA K (He.fAd K d_Schema_init.at_)) := let ⟨_, F⟩ := T.d.def_ 42 (d := d_Schema_init) rfl; fdA_of F
theorem Tx.f_Schema_tables (T : Tx K mg) : FunD K d_Schema_tables.name d_Schema_tables.qual (defArgs s_Schema_tables) (defBody s_Schema_tables) (defScope s_Schema_tables) (d_Schema_tables.dvs K) [] (He.fAd K d_Schema_tables.at_) (fdA K (He.fAd K d_Schema_tables.at_)) := let ⟨_, F⟩ := T.d.def_ 43 (d := d_Schema_tables) rfl; fdA_of F
theorem Tx.f_Schema_fields_like (T : Tx K mg) : FunD K d_Schema_fields_like.name d_Schema_fields_like.qual (defArgs s_Schema_fields_like) (defBody s_Schema_fields_like) (defScope s_Schema_fields_like) (d_Schema_fields_like.dvs K) [] (He.fAd K d_Schema_fields_like.at_) (fdA K (He.fAd K d_Schema_fields_like.at_)) := let ⟨_, F⟩ := T.d.def_ 44 (d := d_Schema_fields_like) rfl; fdA_of F
theorem Tx.f_Schema_links (T : Tx K mg) : FunD K d_Schema_links.name d_Schema_links.qual (defArgs s_Schema_links) (defBody s_Schema_links) (defScope s_Schema_links) (d_Schema_links.dvs K) [] (He.fAd K d_Schema_links.at_) (fdA K (He.fAd K d_Schema_links.at_)) := let ⟨_, F⟩ := T.d.def_ 45 (d := d_Schema_links) rfl; fdA_of F
theorem Tx.f_Schema_tags (T : Tx K mg) : FunD K d_Schema_tags.name d_Schema_tags.qual (defArgs s_Schema_tags) (defBody s_Schema_tags) (defScope s_Schema_tags) (d_Schema_tags.dvs K) [] (He.fAd K d_Schema_tags.at_) (fdA K (He.fAd K d_Schema_tags.at_)) := let ⟨_, F⟩ := T.d.def_ 46 (d := d_Schema_tags) rfl; fdA_of F
theorem Tx.f_Schema_leads_to (T : Tx K mg) : FunD K d_Schema_leads_to.name d_Schema_leads_to.qual (defArgs s_Schema_leads_to) (defBody s_Schema_leads_to) (defScope s_Schema_leads_to) (d_Schema_leads_to.dvs K) [] (He.fAd K d_Schema_leads_to.at_) (fdA K (He.fAd K d_Schema_leads_to.at_)) := let ⟨_, F⟩ := T.d.def_ 47 (d := d_Schema_leads_to) rfl; fdA_of F
theorem Tx.f_Schema_names (T : Tx K mg) : FunD K d_Schema_names.name d_Schema_names.qual (defArgs s_Schema_names) (defBody s_Schema_names) (defScope s_Schema_names) (d_Schema_names.dvs K) [] (He.fAd K d_Schema_names.at_) (fdA K (He.fAd K d_Schema_names.at_)) := let ⟨_, F⟩ := T.d.def_ 48 (d := d_Schema_names) rfl; fdA_of F
theorem Tx.f_Schema_rank_of (T : Tx K mg) : FunD K d_Schema_rank_of.name d_Schema_rank_of.qual (defArgs s_Schema_rank_of) (defBody s_Schema_rank_of) (defScope s_Schema_rank_of) (d_Schema_rank_of.dvs K) [] (He.fAd K d_Schema_rank_of.at_) (fdA K (He.fAd K d_Schema_rank_of.at_)) := let ⟨_, F⟩ := T.d.def_ 49 (d := d_Schema_rank_of) rfl; fdA_of F
theorem Tx.f_Schema_rule_of (T : Tx K mg) : FunD K d_Schema_rule_of.name d_Schema_rule_of.qual (defArgs s_Schema_rule_of) (defBody s_Schema_rule_of) (defScope s_Schema_rule_of) (d_Schema_rule_of.dvs K) [] (He.fAd K d_Schema_rule_of.at_) (fdA K (He.fAd K d_Schema_rule_of.at_)) := let ⟨_, F⟩ := T.d.def_ 50 (d := d_Schema_rule_of) rfl; fdA_of F
theorem Tx.f_Schema_is_value (T : Tx K mg) : FunD K d_Schema_is_value.name d_Schema_is_value.qual (defArgs s_Schema_is_value) (defBody s_Schema_is_value) (defScope s_Schema_is_value) (d_Schema_is_value.dvs K) [] (He.fAd K d_Schema_is_value.at_) (fdA K (He.fAd K d_Schema_is_value.at_)) := let ⟨_, F⟩ := T.d.def_ 51 (d := d_Schema_is_value) rfl; fdA_of F
theorem Tx.f_Schema_is_row (T : Tx K mg) : FunD K d_Schema_is_row.name d_Schema_is_row.qual (defArgs s_Schema_is_row) (defBody s_Schema_is_row) (defScope s_Schema_is_row) (d_Schema_is_row.dvs K) [] (He.fAd K d_Schema_is_row.at_) (fdA K (He.fAd K d_Schema_is_row.at_)) := let ⟨_, F⟩ := T.d.def_ 52 (d := d_Schema_is_row) rfl; fdA_of F
theorem Tx.f_Schema_eq (T : Tx K mg) : FunD K d_Schema_eq.name d_Schema_eq.qual (defArgs s_Schema_eq) (defBody s_Schema_eq) (defScope s_Schema_eq) (d_Schema_eq.dvs K) [] (He.fAd K d_Schema_eq.at_) (fdA K (He.fAd K d_Schema_eq.at_)) := let ⟨_, F⟩ := T.d.def_ 53 (d := d_Schema_eq) rfl; fdA_of F
theorem Tx.f_Tables_init (T : Tx K mg) : FunD K d_Tables_init.name d_Tables_init.qual (defArgs s_Tables_init) (defBody s_Tables_init) (defScope s_Tables_init) (d_Tables_init.dvs K) [] (He.fAd K d_Tables_init.at_) (fdA K (He.fAd K d_Tables_init.at_)) := let ⟨_, F⟩ := T.d.def_ 54 (d := d_Tables_init) rfl; fdA_of F
theorem Tx.f_Tables_has_row (T : Tx K mg) : FunD K d_Tables_has_row.name d_Tables_has_row.qual (defArgs s_Tables_has_row) (defBody s_Tables_has_row) (defScope s_Tables_has_row) (d_Tables_has_row.dvs K) [] (He.fAd K d_Tables_has_row.at_) (fdA K (He.fAd K d_Tables_has_row.at_)) := let ⟨_, F⟩ := T.d.def_ 55 (d := d_Tables_has_row) rfl; fdA_of F
theorem Tx.f_Tables_getitem (T : Tx K mg) : FunD K d_Tables_getitem.name d_Tables_getitem.qual (defArgs s_Tables_getitem) (defBody s_Tables_getitem) (defScope s_Tables_getitem) (d_Tables_getitem.dvs K) [] (He.fAd K d_Tables_getitem.at_) (fdA K (He.fAd K d_Tables_getitem.at_)) := let ⟨_, F⟩ := T.d.def_ 56 (d := d_Tables_getitem) rfl; fdA_of F
theorem Tx.f_Tables_setitem (T : Tx K mg) : FunD K d_Tables_setitem.name d_Tables_setitem.qual (defArgs s_Tables_setitem) (defBody s_Tables_setitem) (defScope s_Tables_setitem) (d_Tables_setitem.dvs K) [] (He.fAd K d_Tables_setitem.at_) (fdA K (He.fAd K d_Tables_setitem.at_)) := let ⟨_, F⟩ := T.d.def_ 57 (d := d_Tables_setitem) rfl; fdA_of F
theorem Tx.f_Tables_drop (T : Tx K mg) : FunD K d_Tables_drop.name d_Tables_drop.qual (defArgs s_Tables_drop) (defBody s_Tables_drop) (defScope s_Tables_drop) (d_Tables_drop.dvs K) [] (He.fAd K d_Tables_drop.at_) (fdA K (He.fAd K d_Tables_drop.at_)) := let ⟨_, F⟩ := T.d.def_ 58 (d := d_Tables_drop) rfl; fdA_of F
theorem Tx.f_Tables_rows (T : Tx K mg) : FunD K d_Tables_rows.name d_Tables_rows.qual (defArgs s_Tables_rows) (defBody s_Tables_rows) (defScope s_Tables_rows) (d_Tables_rows.dvs K) [] (He.fAd K d_Tables_rows.at_) (fdA K (He.fAd K d_Tables_rows.at_)) := let ⟨_, F⟩ := T.d.def_ 59 (d := d_Tables_rows) rfl; fdA_of F
theorem Tx.f_Tables_ids (T : Tx K mg) : FunD K d_Tables_ids.name d_Tables_ids.qual (defArgs s_Tables_ids) (defBody s_Tables_ids) (defScope s_Tables_ids) (d_Tables_ids.dvs K) [] (He.fAd K d_Tables_ids.at_) (fdA K (He.fAd K d_Tables_ids.at_)) := let ⟨_, F⟩ := T.d.def_ 60 (d := d_Tables_ids) rfl; fdA_of F
theorem Tx.f_Tables_len (T : Tx K mg) : FunD K d_Tables_len.name d_Tables_len.qual (defArgs s_Tables_len) (defBody s_Tables_len) (defScope s_Tables_len) (d_Tables_len.dvs K) [] (He.fAd K d_Tables_len.at_) (fdA K (He.fAd K d_Tables_len.at_)) := let ⟨_, F⟩ := T.d.def_ 61 (d := d_Tables_len) rfl; fdA_of F
theorem Tx.f_Tables_table_of (T : Tx K mg) : FunD K d_Tables_table_of.name d_Tables_table_of.qual (defArgs s_Tables_table_of) (defBody s_Tables_table_of) (defScope s_Tables_table_of) (d_Tables_table_of.dvs K) [] (He.fAd K d_Tables_table_of.at_) (fdA K (He.fAd K d_Tables_table_of.at_)) := let ⟨_, F⟩ := T.d.def_ 62 (d := d_Tables_table_of) rfl; fdA_of F
theorem Tx.f_Tables_target (T : Tx K mg) : FunD K d_Tables_target.name d_Tables_target.qual (defArgs s_Tables_target) (defBody s_Tables_target) (defScope s_Tables_target) (d_Tables_target.dvs K) [] (He.fAd K d_Tables_target.at_) (fdA K (He.fAd K d_Tables_target.at_)) := let ⟨_, F⟩ := T.d.def_ 63 (d := d_Tables_target) rfl; fdA_of F
end
end K25

/-! H1 -/
set_option maxHeartbeats 0
namespace K25
open PySem PySem.Spec PyProof.Rows L2
abbrev R : PySem.W.OpenRow := PySem.W.OpenLaw.row PySem.Challenge.rw_endchecks_k25_whole_parts_apart
abbrev qv : Program := PySem.W.view R.prog [60]
def namesA : List PySem.Str := ["_wall", "LETTERS", "is_name", "is_new_id", "is_id", "is_tag_name", "is_field", "fields_of", "sort_of", "is_test", "is_tests", "passes", "meets", "copied_test", "copied_tests", "CheckError", "Wrong", "Full", "BadRule", "BadRow", "NoRow", "Taken", "are_tables", "has_field", "is_rule", "copied_rule", "copied_field", "Schema", "MOST_ROWS", "Tables"]
def namesB : List PySem.Str := ["sharing", "is_kept_by", "spots", "holds", "neighbours", "reached", "apart", "_law_bag", "_law_take", "_law_alike", "_law_names", "_law_fields", "_law_like", "_law_tests", "_law_one_rule", "_law_parts", "_law_rows", "_law_tables", "_law_rows_of", "_law_near", "_law_groups", "_law_joins", "_law_changed"]
def names : List PySem.Str := namesA ++ namesB
def ob (s : PySem.W.SharedT) : AlK := obsKG (HandSHeadRun.getT s)
theorem ob_eq (s : PySem.W.SharedT) : ob s = hookK.obs s.abs := congrArg obsKG (funext (HandSHeadRun.getT_eq s))
theorem run (w : World) : HandSHeadRun.RunEq R qv hookK ob 6000 names w := by
  intro os
  kernel_rfl
end K25

/-! H2 -/
namespace K25
open PySem PySem.W PySem.Calls PyProof.Rows
/-- the head: what is left is the walk of the law -/
theorem head_of (hc : WalkO (view (OpenLaw.row PySem.Challenge.rw_endchecks_k25_whole_parts_apart).prog [60]) names (XL (view (OpenLaw.row PySem.Challenge.rw_endchecks_k25_whole_parts_apart).prog [60]) []) hookK.says
    (OpenLaw.row PySem.Challenge.rw_endchecks_k25_whole_parts_apart).toRowW (HandSHeadRun.topDef (OpenLaw.row PySem.Challenge.rw_endchecks_k25_whole_parts_apart).prog 60) [] fun f vs => PySem.call f vs) : PySem.Challenge.rw_endchecks_k25_whole_parts_apart.Holds := by
  w_on; o_law
  refine HandSHeadRun.head_any (r := OpenLaw.row PySem.Challenge.rw_endchecks_k25_whole_parts_apart) (q := view (OpenLaw.row PySem.Challenge.rw_endchecks_k25_whole_parts_apart).prog [60]) (H := hookK) (ob := ob) (M := 6000) (loose := names) (d := HandSHeadRun.topDef (OpenLaw.row PySem.Challenge.rw_endchecks_k25_whole_parts_apart).prog 60) (kwd := []) ob_eq
    (by kernel_rfl) (fun s => by kernel_rfl) run (by kernel_rfl) (by kernel_rfl) (by kernel_rfl) (by rfl) (by first | assumption | decide +kernel) (by decide +kernel) ⟨rfl, rfl, rfl, rfl, rfl, by decide +kernel⟩ ?hw hc
  case hw => w_witness2
end K25

/-! K3 -/
set_option maxHeartbeats 4000000
/-! K3: contracts' structures, rules in short. -/
namespace K25
open PySem PySem.Spec PyProof.Rows L2
/-- a def that may be called by its name -/
structure Cal (P : Program) (w : World) (K : PySem.W.Frag) (mg : Str → Option Value) (base : Heap) (k : Nat) (x : Str) (sp : Sp) : Prop where
  ex : ∃ (f : Addr) (fd : FuncData) (ps : List Str), FnOk P w K mg base CX0 k f fd ps sp ∧ mg x = some (.ref f) ∧ PySem.W.keepIn K (.ref f) = true ∧ Binds K fd ps []
/-- a method of the class at C -/
structure Met (P : Program) (w : World) (K : PySem.W.Frag) (mg : Str → Option Value) (base : Heap) (k : Nat) (C : Addr) (m : Str) (sp : Sp) : Prop where
  ex : ∃ (f : Addr) (fd : FuncData) (ps : List Str), Cls K C ∧ Meth K C m f ∧ FnOk P w K mg base CX0 k f fd ps sp ∧ Binds K fd ps []
/-- a class that may be made by its name; sp: its __init__ -/
structure Mak (P : Program) (w : World) (K : PySem.W.Frag) (mg : Str → Option Value) (base : Heap) (k : Nat) (x : Str) (C : Addr) (sp : Sp) : Prop where
  ex : ∃ (f : Addr) (fd : FuncData) (ps : List Str), Mk K C f ∧ FnOk P w K mg base CX0 k f fd ps sp ∧ mg x = some (.ref C) ∧ Binds K fd ps []
section
variable {X : Cx} {k j : Nat} {C : Addr} {x m : Str} {sp : Sp} {p pos apos : Pos} {e o : Expr} {es : List Expr} {ta : TE} {t : TA}
theorem pe_cal (c : Cal X.prog X.w X.K X.mg X.base k x sp) (hr : Room j X.A) (hk : k ≤ j) (hg : Gl X x) (ha : PA X (e :: es) t)
    (hdb : (x == ("__debug__" : Str)) = false := by decide) (he : starEach (e :: es) X.env = (false, eval e X.env) :: starEach es X.env := by rfl) (hpl : (backTo pos (starEach es X.env)).any (·.1) = false := by rfl) :
    PE X (.Call (.Name x p) (e :: es) [] pos) (tCall sp [] E0 t) := by
  obtain ⟨f, fd, ps, F, hm, kp, b⟩ := c.ex
  exact pe_call F (hr.mono hk) hg hm kp b .nil pass0 ha hdb he hpl
theorem pe_mak (c : Mak X.prog X.w X.K X.mg X.base k x C sp) (hr : Room j X.A) (hk : k + 1 ≤ j) (hg : Gl X x) (ha : PA X (e :: es) t)
    (hdb : (x == ("__debug__" : Str)) = false := by decide) (he : starEach (e :: es) X.env = (false, eval e X.env) :: starEach es X.env := by rfl) (hpl : (backTo pos (starEach es X.env)).any (·.1) = false := by rfl) :
    PE X (.Call (.Name x p) (e :: es) [] pos) (tMake C sp [] E0 t) := by
  obtain ⟨f, fd, ps, M, F, hm, b⟩ := c.ex
  exact pe_make M F (hr.mono hk) hg hm b .nil pass0 ha hdb he hpl
theorem pe_met {pl : Sem Bool} (c : Met X.prog X.w X.K X.mg X.base k C m sp) (hr : Room j X.A) (hk : k ≤ j) (he : PE X o ta) (ha : PA X (e :: es) t)
    (hst : starEach (e :: es) X.env = (false, eval e X.env) :: starEach es X.env := by rfl) (hpl : (backTo pos (starEach es X.env)).any (·.1) = false := by rfl)
    (ht : eval (.Call (.Attribute o m apos) (e :: es) [] pos) X.env = (do
      let ov ← eval o X.env
      standAt apos.atName
      let (f, first) ← holding [ov] (getMethod ov m pl)
      callWith pos f first (backTo pos (starEach (e :: es) X.env)) (backToKw pos (keywordEach [] X.env))) := by rfl) :
    PE X (.Call (.Attribute o m apos) (e :: es) [] pos) (tMeth C m sp [] E0 ta t) := by
  obtain ⟨f, fd, ps, hc, hm, F, b⟩ := c.ex
  exact pe_meth (pl := pl) he hc hm F (hr.mono hk) b .nil pass0 ha hst hpl ht
theorem pe_met0 {pl : Sem Bool} (c : Met X.prog X.w X.K X.mg X.base k C m sp) (hr : Room j X.A) (hk : k ≤ j) (he : PE X o ta)
    (ht : eval (.Call (.Attribute o m apos) [] [] pos) X.env = (do
      let ov ← eval o X.env
      standAt apos.atName
      let (f, first) ← holding [ov] (getMethod ov m pl)
      callWith pos f first (backTo pos (starEach [] X.env)) (backToKw pos (keywordEach [] X.env))) := by rfl) :
    PE X (.Call (.Attribute o m apos) [] [] pos) (tMeth C m sp [] E0 ta tNil) := by
  obtain ⟨f, fd, ps, hc, hm, F, b⟩ := c.ex
  exact pe_meth0 (pl := pl) he hc hm F (hr.mono hk) b .nil pass0 ht
/-- a name of the module: a text, an int -/
theorem pe_gstr {z : Str} (hg : Gl X x) (h : ∃ t, X.mg x = some (.str z t)) (hd : (x == ("__debug__" : Str)) = false := by decide) : PE X (.Name x pos) (tC (.str z)) := by
  obtain ⟨t, hm⟩ := h
  exact pe_glob hg hm ⟨t, rfl⟩ hd
theorem pe_gint {z : Int} (hg : Gl X x) (h : ∃ t, X.mg x = some (.int z t)) (hd : (x == ("__debug__" : Str)) = false := by decide) : PE X (.Name x pos) (tC (.int z)) := by
  obtain ⟨t, hm⟩ := h
  exact pe_glob hg hm ⟨t, rfl⟩ hd
/-- what is never come to -/
def tNev : TE := fun _ _ _ => False
def tNevT : TT := fun _ _ _ => False
theorem pe_nev : PE X e tNev := ⟨fun _ _ _ _ _ _ h => h.elim⟩
theorem pt_nev : PT X e tNevT := ⟨fun _ _ _ _ _ _ h => h.elim⟩
end
section
variable {P : Program} {w : World} {K : PySem.W.Frag} {mg : Str → Option Value} {base : Heap}
/-- THE RULE for a def, by its body -/
theorem fn_body {x qual : Str} {pa : Arguments} {bd : List Stmt} {sc : Scope} {dvs : List V} {f : Addr} {fd : FuncData} {N ps : List Str} {k : Nat} {sp : Sp} (F : FunD K x qual pa bd sc dvs [] f fd) (S : FnScope N ps sc) (len : ∀ vs H Q E, sp vs H Q E → vs.length = ps.length)
    (hbody : ∀ (cdv : Value) (A : Around) (outer : List Env) (s : Shared) (H : Hp) (vs : List V) (Q : VK) (E : XK), Room k (A.deeper (envOfC qual sc s.heap.objs.size f cdv)) → sp vs H Q E →
      ∃ t, PSs (cxOf CX0 P w K mg base N qual sc f cdv A outer s H E).nox bd t ∧ t { nx := fun _ H' => Q .non H', rt := Q } (start N vs) H) : FnOk P w K mg base CX0 (k + 1) f fd ps sp :=
  F.ok S len fun cdv A outer s H vs Q E hr h => let ⟨t, h1, h2⟩ := hbody cdv A outer s H vs Q E hr h; ⟨t, h1.nox, h2⟩
end
end K25

/-! K4 -/
/-! K4: rules for statements, built-ins. -/
namespace K25
open PySem PySem.Spec PyProof.Rows L2
section
variable {K : PySem.W.Frag} {σ : L2.St} {G H : Hp} {ta tb tc te td tx ty : TE} {c t0 : TT} {tr : TA} {x y z v w : V} {vs ws xs : List V} {b : Bool} {a p C dx : Addr} {kvs : List (Key × V)} {k : Key} {D : Ends} {t u rest : TS} {Q : VK}
/-! ### statements -/
theorem s_ret (s : Sub G H) (h : Gv te σ G v) (k : ∀ H', Same H H' → D.rt v H') : tRet te D σ H := h H s _ k
theorem s_drop (s : Sub G H) (h : Gv te σ G v) (k : ∀ H', Same H H' → D.nx σ H') : tDrop te D σ H := h H s _ k
theorem s_set {i : Nat} (s : Sub G H) (h : Gv te σ G v) (k : ∀ H', Same H H' → D.nx (σ.set i (some v)) H') : tAsg te (gName i) D σ H := h H s _ k
theorem s_setN {i : Nat} {mk : HO} (s : Sub G H) (h : Gn mk te σ G) (k : ∀ p H', Same H H' → H p = none → H' p = some mk → D.nx (σ.set i (some (.ref p))) H') : tAsg te (gName i) D σ H := h H s _ k
theorem s_retN {mk : HO} (s : Sub G H) (h : Gn mk te σ G) (k : ∀ p H', Same H H' → H p = none → H' p = some mk → D.rt (.ref p) H') : tRet te D σ H := h H s _ k
theorem s_setX {i : Nat} {Φ : V → Hp → Prop} (s : Sub G H) (h : Ge te σ G Φ) (k : ∀ v G' H', Stp G H G' H' → Φ v G' → D.nx (σ.set i (some v)) H') : tAsg te (gName i) D σ H := h H s trivial _ k
theorem s_retX {Φ : V → Hp → Prop} (s : Sub G H) (h : Ge te σ G Φ) (k : ∀ v G' H', Stp G H G' H' → Φ v G' → D.rt v H') : tRet te D σ H := h H s trivial _ k
theorem s_if (s : Sub G H) (h : Gt c σ G b) (h1 : b = true → ∀ H', Same H H' → t D σ H') (h2 : b = false → ∀ H', Same H H' → u D σ H') : tIfS c t u D σ H := h H s _ fun H1 e => by
  cases b with
  | true => exact h1 rfl H1 e
  | false => exact h2 rfl H1 e
theorem s_yes (s : Sub G H) (h : Gt c σ G true) (h1 : ∀ H', Same H H' → t D σ H') : tIfS c t u D σ H := s_if s h (fun _ => h1) fun z => nomatch z
theorem s_no (s : Sub G H) (h : Gt c σ G false) (h2 : ∀ H', Same H H' → u D σ H') : tIfS c t u D σ H := s_if s h (fun z => nomatch z) fun _ => h2
/-! the same, something behind -/
theorem q_set {i : Nat} (s : Sub G H) (h : Gv te σ G v) (k : ∀ H', Same H H' → rest D (σ.set i (some v)) H') : tSeq (tAsg te (gName i)) rest D σ H := h H s _ k
theorem q_setN {i : Nat} {mk : HO} (s : Sub G H) (h : Gn mk te σ G) (k : ∀ p H', Same H H' → H p = none → H' p = some mk → rest D (σ.set i (some (.ref p))) H') : tSeq (tAsg te (gName i)) rest D σ H := h H s _ k
theorem q_setX {i : Nat} {Φ : V → Hp → Prop} (s : Sub G H) (h : Ge te σ G Φ) (k : ∀ v G' H', Stp G H G' H' → Φ v G' → rest D (σ.set i (some v)) H') : tSeq (tAsg te (gName i)) rest D σ H := h H s trivial _ k
theorem q_drop (s : Sub G H) (h : Gv te σ G v) (k : ∀ H', Same H H' → rest D σ H') : tSeq (tDrop te) rest D σ H := h H s _ k
theorem q_no (s : Sub G H) (h : Gt c σ G false) (k : ∀ H', Same H H' → rest D σ H') : tSeq (tIfS c t tNext) rest D σ H := h H s _ fun H1 e => k H1 e
theorem q_noE (s : Sub G H) (h : Gt c σ G false) (k : ∀ H', Same H H' → u { D with nx := rest D } σ H') : tSeq (tIfS c t u) rest D σ H := h H s _ fun H1 e => k H1 e
theorem q_yes (s : Sub G H) (h : Gt c σ G true) (k : ∀ H', Same H H' → t { D with nx := rest D } σ H') : tSeq (tIfS c t u) rest D σ H := h H s _ fun H1 e => k H1 e
theorem q_if (s : Sub G H) (h : Gt c σ G b) (h1 : b = true → ∀ H', Same H H' → t { D with nx := rest D } σ H') (h2 : b = false → ∀ H', Same H H' → u { D with nx := rest D } σ H') : tSeq (tIfS c t u) rest D σ H := s_if (D := { D with nx := rest D }) s h h1 h2
theorem q_par {i j : Nat} (s : Sub G H) (h : Ga tr σ G [v, w]) (k : ∀ H', Same H H' → rest D ((σ.set i (some v)).set j (some w)) H') : tSeq (tPar i j tr) rest D σ H := h H s _ fun H1 e => ⟨v, w, rfl, k H1 e⟩
/-! ### isinstance -/
def Ty (K : PySem.W.Frag) (G : Hp) (v : V) (t : Value) : Prop := ∀ H, Sub G H → TyX K H v t
theorem ty_str {s : Str} : Ty K G (.str s) (.type "str") := fun _ _ => .base (.str s)
theorem ty_non : Ty K G .non (.type "NoneType") := fun _ _ => .base .non
theorem ty_tup (h : G a = some (.tup xs)) : Ty K G (.ref a) (.type "tuple") := fun _ s => .base (.tup (s.tup h))
theorem ty_lst (h : G a = some (.lst xs)) : Ty K G (.ref a) (.type "list") := fun _ s => .base (.lst (s.lst h))
theorem ty_dK (h : G a = some (.dK kvs)) : Ty K G (.ref a) (.type "dict") := fun _ s => by
  rcases s.rd h with e | ⟨ob, e⟩
  · exact .base (.dK e)
  · exact .fDict e
theorem kit_self {t : Value} : PySem.W.kitOne K t t = some true := by
  unfold PySem.W.kitOne
  rw [if_pos (by simp)]
theorem gv_isi {u t : Value} (hv : Gv te σ G v) (hc : Gv tc σ G w) (k : ClsV w u) (ty : Ty K G v t) (e : PySem.W.kitOne K t u = some b) : Gv (tCB (rIsi K) (tCons te (tCons tc tNil))) σ G (.bl b) := fun H s Q q =>
  hv H s _ fun H1 e1 => hc H1 (s.same e1) _ fun H2 e2 => ⟨v, w, t, u, b, rfl, k, ty H2 ((s.same e1).same e2), e, q H2 (e1.trans e2)⟩
/-- isinstance(x, T): x is one -/
theorem gv_isiY {n : String} (hv : Gv te σ G v) (ty : Ty K G v (.type n)) : Gv (tCB (rIsi K) (tCons te (tCons (tC (.ty n)) tNil))) σ G (.bl true) := gv_isi hv gv_c (.ty n) ty kit_self
/-! ### len -/
theorem gv_lenS {s : Str} (h : Gv te σ G (.str s)) (hl : s.length ≤ sizeLine) : Gv (tCB (fun xs H Q => ∃ z : Str, xs = [.str z] ∧ z.length ≤ sizeLine ∧ Q (.int z.length) H) (tCons te tNil)) σ G (.int s.length) := fun H sb _ q =>
  h H sb _ fun H1 e1 => ⟨s, rfl, hl, q H1 e1⟩
theorem gv_lenL {n : Int} (h : Gv te σ G (.ref a)) (ha : G a = some (.lst xs)) (e : (xs.length : Int) = n) : Gv (tCB (fun xs H Q => ∃ p ys, xs = [.ref p] ∧ (SqL K H p ys ∨ SqT K H p ys) ∧ Q (.int ys.length) H) (tCons te tNil)) σ G (.int n) := fun H s _ q =>
  h H s _ fun H1 e1 => ⟨a, xs, rfl, .inl (SqL.of ((s.same e1).lst ha)), by rw [e]; exact q H1 e1⟩
theorem gv_lenT {n : Int} (h : Gv te σ G (.ref a)) (ha : G a = some (.tup xs)) (e : (xs.length : Int) = n) : Gv (tCB (fun xs H Q => ∃ p ys, xs = [.ref p] ∧ (SqL K H p ys ∨ SqT K H p ys) ∧ Q (.int ys.length) H) (tCons te tNil)) σ G (.int n) := fun H s _ q =>
  h H s _ fun H1 e1 => ⟨a, xs, rfl, .inr (SqT.of ((s.same e1).tup ha)), by rw [e]; exact q H1 e1⟩
/-- len of a dict, locked or not -/
def rLenR : List V → Hp → VK → Prop := fun xs H Q => ∃ a kvs, xs = [V.ref a] ∧ Rd H a (.dK kvs) ∧ Q (.int kvs.length) H
theorem call_lenR {X : Cx} : CallR X (.builtin "len") rLenR := by
  intro pins s σ H xs us Q I r h
  obtain ⟨a, kvs, rfl, ha, q⟩ := h
  obtain ⟨u, rfl, ru⟩ := vals1 r
  cases ru
  exact d_len I ha fun t s' I' => ⟨.int kvs.length, H, I', ⟨t, rfl⟩, q⟩
theorem gv_lenD {n : Int} (h : Gv te σ G (.ref a)) (ha : G a = some (.dK kvs)) (e : (kvs.length : Int) = n) : Gv (tCB rLenR (tCons te tNil)) σ G (.int n) := fun H s _ q =>
  h H s _ fun H1 e1 => ⟨a, kvs, rfl, (s.same e1).rd ha, by rw [e]; exact q H1 e1⟩
/-! ### a sign in a text; texts in lists -/
theorem gv_inS {s : Str} {n : Nat} (h1 : Gv ta σ G (.str ⟨#[n]⟩)) (h2 : Gv tb σ G (.str s)) : Gv (tOp (fun x y H Q => ∃ (c : Nat) (z : Str), x = .str ⟨#[c]⟩ ∧ y = .str z ∧ Q (.bl (decide (c ∈ z.cps.toList))) H) ta tb) σ G (.bl (decide (n ∈ s.cps.toList))) :=
  gv_op h1 h2 fun H _ Q q => ⟨n, s, rfl, rfl, q H (Same.refl H)⟩
theorem eqV_str (s t : Str) : eqV (.str s) (.str t) = decide (s = t) := by
  by_cases h : s = t
  · subst h; simp [eqV]
  · simp [eqV, h]
end
/-! ### names -/
def Nm (s : Str) : Prop := 1 ≤ s.length ∧ s.length ≤ 8 ∧ ∀ c ∈ s.cps.toList, 97 ≤ c ∧ c ≤ 122
theorem letters_in {c : Nat} (h : 97 ≤ c ∧ c ≤ 122) : c ∈ ("abcdefghijklmnopqrstuvwxyz" : Str).cps.toList := by
  have e : ("abcdefghijklmnopqrstuvwxyz" : Str).cps.toList = (List.range 26).map (97 + ·) := by decide +kernel
  rw [e]
  exact List.mem_map.mpr ⟨c - 97, List.mem_range.mpr (by omega), by omega⟩
def spIsName : Sp := fun vs H Q _ => ∃ s, vs = [.str s] ∧ Nm s ∧ ∀ H', Same H H' → Q (.bl true) H'
theorem sv_isName {G : Hp} {s : Str} (h : Nm s) : Sv spIsName [.str s] G (.bl true) := fun H _ Q E q => ⟨s, rfl, h, q⟩
end K25

/-! K5 -/
/-! K5: == and != by what stands in the abstract heap. -/
namespace PySem.W
open PySem PySem.Calls PyProof.Rows PySem.Spec
section
variable {prog : Program} {w : World} {K : Type} [DecidableEq K] {knd : KeyKind prog w K} {A : Around} {E : Value → Shared → Prop} {s : Shared}
theorem k25_neP_dicts {a b : Addr} {ka kb : List (K × Value)} {r : Bool} (ha : (a == sysModules) = false) (hb : (b == sysModules) = false)
    (da : s.heap.DictOf knd a ka) (db : s.heap.DictOf knd b kb) (hu : A.units < cLine) (hits : ka.length = kb.length → KeqHitsP prog w A.in1 s kb ka r) (E Q : Value → Shared → Prop) (h : Q (.bool (!(ka.length == kb.length && r))) s) : wpAny (model prog w) A (compareOp .NotEq (.ref a) (.ref b)) Q E s := by
  refine wpAny_richCompare_same_room (op := .NotEq) da.typeIs db.typeIs PySem.F.slot_dict_ne (wpAny_call_entry PySem.F.slot_dict_ne da.typeIs PySem.F.entry_dict_ne ?_ (PySem.F.args_dict_ne_2 _ _)) hu
  show wpAny _ _ (Builtin.Dict.dictSlotArgs "__ne__" ⟨[.ref a, .ref b], []⟩ >>= _) _ _ s
  refine wpAny_bind ?_
  unfold Builtin.Dict.dictSlotArgs
  refine wpAny_bind (wpAny_notOrdered_dict da.typeIs ?_)
  show wpAny _ _ (pure (Value.ref a, Value.ref b)) _ _ s
  refine wpAny_pure ?_
  refine wpAny_bind (wpAny_isInstance (T := "dict") db.typeIs PySem.F.sub_dict_dict ?_)
  simp only [Bool.not_true, Bool.false_eq_true, if_false]
  refine wpAny_bind (wpAny_pure (wpAny_bind (wpAny_pure ?_)))
  refine wpAny_bind (samePairsP ha hb da db hits ?_)
  refine wpAny_pure ⟨_, rfl, ?_, ?_⟩
  · exact fun x => nomatch x
  · simpa using h
end
end PySem.W
namespace K25
open PySem PySem.Spec PyProof.Rows L2
section
variable {X : Cx} {pins : List (Addr × Obj)} {σ : L2.St} {H : Hp} {s : Shared}
/-- two lists, two tuples of equal items; two dicts of the same keys, their values equal -/
def EqR (K : PySem.W.Frag) (H : Hp) (E : V → V → Prop) (x y : V) : Prop :=
  (∃ a b xs ys, x = .ref a ∧ y = .ref b ∧ SqL K H a xs ∧ SqL K H b ys ∧ Paired E xs ys) ∨ (∃ a b xs ys, x = .ref a ∧ y = .ref b ∧ SqT K H a xs ∧ SqT K H b ys ∧ Paired E xs ys) ∨
    ∃ a b ks ls, x = .ref a ∧ y = .ref b ∧ Rd H a (.dK ks) ∧ Rd H b (.dK ls) ∧ ks.length = ls.length ∧ ∀ p ∈ ks, ∃ u, valV ls p.1 = some u ∧ E p.2 u
/-- equal, of nesting below n -/
def EqT (K : PySem.W.Frag) (H : Hp) : Nat → V → V → Prop
  | 0 => fun _ _ => False
  | n + 1 => fun x y => (x = y ∧ flatB x = true) ∨ (∃ a, x = .ref a ∧ y = .ref a) ∨ EqR K H (EqT K H n) x y
theorem eqR_run (I : Inv X pins σ H s) {A : Around} {F : V → V → Prop} (hu : A.units < cLine) (ih : ∀ x y v u, F x y → RelV x v → RelV y u → SeqAt.EqP X.prog X.w A.in1 s v u true) {x y : V} {v u : Value} (h : EqR X.K H F x y) (rx : RelV x v) (ry : RelV y u)
    (E Q : Value → Shared → Prop) (q : Q (.bool true) s) : wpAny (model X.prog X.w) A (richCompare .Eq v u) Q E s := by
  rcases h with ⟨a, b, xs, ys, rfl, rfl, ha, hb, hp⟩ | ⟨a, b, xs, ys, rfl, rfl, ha, hb, hp⟩ | ⟨a, b, ks, ls, rfl, rfl, ha, hb, hl, hp⟩
  · cases (show v = Value.ref a from rx)
    cases (show u = Value.ref b from ry)
    obtain ⟨us, r1, p1, _⟩ := I.list ha
    obtain ⟨ws, r2, p2, _⟩ := I.list hb
    have hsz : us.toArray.size = ws.toArray.size := by
      rw [List.size_toArray, List.size_toArray, ← r1.length, ← r2.length]
      exact Paired.length hp
    refine SeqAt.rcP_lists (e := fun _ => true) p1.isList p2.isList hsz hu (fun j h1 h2 => ?_) E Q ?_
    · have k := items_run ih hp r1 r2 j (by simpa using h1) (by simpa using h2)
      simpa using k
    · rw [show ((List.range us.toArray.size).all fun _ => true) = true from List.all_eq_true.mpr fun _ _ => rfl]
      exact q
  · cases (show v = Value.ref a from rx)
    cases (show u = Value.ref b from ry)
    obtain ⟨us, r1, p1, _⟩ := I.tuple ha
    obtain ⟨ws, r2, p2, _⟩ := I.tuple hb
    have hsz : us.toArray.size = ws.toArray.size := by
      rw [List.size_toArray, List.size_toArray, ← r1.length, ← r2.length]
      exact Paired.length hp
    refine GQ.rc_tupG hsz hu (fun _ s' => s' = s) p1 p2 (fun i h1 h2 s' e => ?_) (fun s' e => by rw [e]; exact q) rfl
    subst e
    have k := items_run ih hp r1 r2 i (by simpa using h1) (by simpa using h2)
    simp only [List.getElem_toArray]
    exact k E _ ⟨rfl, rfl⟩
  · cases (show v = Value.ref a from rx)
    cases (show u = Value.ref b from ry)
    obtain ⟨_, ya, va, ra, da⟩ := dk_rd I.hok ha
    obtain ⟨_, yb, vb, rb, db⟩ := dk_rd I.hok hb
    refine PySem.W.rcP_dicts (knd := mixKind X.prog X.w) (r := true) ya yb da db hu (fun _ => hits_run ih rb ra hp) E Q ?_
    have e : va.length = vb.length := by rw [← ra.length, ← rb.length]; exact hl
    rw [show (va.length == vb.length && true) = true from by rw [e]; simp]
    exact q
theorem eqT_run (I : Inv X pins σ H s) : ∀ (n : Nat) (A : Around), A.units + n < cLine → ∀ (x y : V) (v u : Value), EqT X.K H n x y → RelV x v → RelV y u → SeqAt.EqP X.prog X.w A s v u true
  | 0, _, _, _, _, _, _, h, _, _ => (show False from h).elim
  | n + 1, A, hu, x, y, v, u, h, rx, ry => by
    rcases h with ⟨rfl, f⟩ | ⟨a, rfl, rfl⟩ | h
    · exact (eqAt_same rx ry f).eqP
    · cases (show v = Value.ref a from rx)
      cases (show u = Value.ref a from ry)
      exact (SeqAt.EqAt.same _).eqP
    · have step := eqR_run I (A := A) (by omega) (eqT_run I n A.in1 (by show A.units + 1 + n < cLine; omega)) h rx ry
      obtain ⟨a, b, rfl, rfl⟩ : ∃ a b, x = .ref a ∧ y = .ref b := by
        rcases h with ⟨a, b, _, _, e1, e2, _⟩ | ⟨a, b, _, _, e1, e2, _⟩ | ⟨a, b, _, _, e1, e2, _⟩ <;> exact ⟨a, b, e1, e2⟩
      cases (show v = Value.ref a from rx)
      cases (show u = Value.ref b from ry)
      by_cases e : a = b
      · subst e
        exact (SeqAt.EqAt.same _).eqP
      · exact SeqAt.eqP_refs e step
end
section
variable {X : Cx}
/-- a == b: two lists, tuples, dicts that are equal -/
def rEqT (K : PySem.W.Frag) : R2 := fun x y H Q => ∃ n, n ≤ 60 ∧ EqR K H (EqT K H n) x y ∧ Q (.bl true) H
theorem op_eqT (hu : X.A.units + 64 < cLine) : OpR X (compareOp .Eq) (rEqT X.K) := by
  intro pins s σ H x y v u Q I rx ry h
  obtain ⟨n, hn, h, q⟩ := h
  exact eqR_run I (A := X.A) (by omega) (eqT_run I n X.A.in1 (by show X.A.units + 1 + n < cLine; omega)) h rx ry _ _ ⟨.bl true, H, I, rfl, q⟩
/-- a != b: two dicts that are equal, or of different lengths -/
def rNeT (K : PySem.W.Frag) : R2 := fun x y H Q => ∃ n a b ks ls, n ≤ 60 ∧ x = .ref a ∧ y = .ref b ∧ Rd H a (.dK ks) ∧ Rd H b (.dK ls) ∧
  ((ks.length = ls.length ∧ (∀ p ∈ ks, ∃ u, valV ls p.1 = some u ∧ EqT K H n p.2 u) ∧ Q (.bl false) H) ∨ (ks.length ≠ ls.length ∧ Q (.bl true) H))
theorem op_neT (hu : X.A.units + 64 < cLine) : OpR X (compareOp .NotEq) (rNeT X.K) := by
  intro pins s σ H x y v u Q I rx ry h
  obtain ⟨n, a, b, ks, ls, hn, rfl, rfl, ha, hb, h⟩ := h
  cases (show v = Value.ref a from rx)
  cases (show u = Value.ref b from ry)
  obtain ⟨_, ya, va, ra, da⟩ := dk_rd I.hok ha
  obtain ⟨_, yb, vb, rb, db⟩ := dk_rd I.hok hb
  rcases h with ⟨hl, hp, q⟩ | ⟨hl, q⟩
  · refine PySem.W.k25_neP_dicts (knd := mixKind X.prog X.w) (r := true) ya yb da db (by omega) (fun _ => hits_run (eqT_run I n X.A.in1 (by show X.A.units + 1 + n < cLine; omega)) rb ra hp) _ _ ?_
    have e : va.length = vb.length := by rw [← ra.length, ← rb.length]; exact hl
    exact ⟨.bl false, H, I, by rw [e]; simp [L2.RelV], q⟩
  · have e : ¬ va.length = vb.length := by rw [← ra.length, ← rb.length]; exact hl
    refine PySem.W.k25_neP_dicts (knd := mixKind X.prog X.w) (r := true) ya yb da db (by omega) (fun z => absurd z e) _ _ ?_
    exact ⟨.bl true, H, I, by simp [L2.RelV, e], q⟩
/-- a list against an empty one, a tuple against an empty one -/
def rEqNil (K : PySem.W.Frag) (neg : Bool) : R2 := fun x y H Q => ∃ a b xs, x = .ref a ∧ y = .ref b ∧ SqL K H a xs ∧ SqL K H b [] ∧ Q (.bl (if neg then !xs.isEmpty else xs.isEmpty)) H
def rEqNilT (K : PySem.W.Frag) : R2 := fun x y H Q => ∃ a b xs, x = .ref a ∧ y = .ref b ∧ SqT K H a xs ∧ SqT K H b [] ∧ Q (.bl xs.isEmpty) H
theorem isEmpty_rel {xs : List V} {us : List Value} (r : Vals xs us) : us.isEmpty = xs.isEmpty := by cases r <;> rfl
theorem op_eqNil (hu : X.A.units + 64 < cLine) : OpR X (compareOp .Eq) (rEqNil X.K false) := by
  intro pins s σ H x y v u Q I rx ry h
  obtain ⟨a, b, xs, rfl, rfl, ha, hb, q⟩ := h
  cases (show v = Value.ref a from rx)
  cases (show u = Value.ref b from ry)
  obtain ⟨us, r1, p1, _⟩ := I.list ha
  obtain ⟨ws, r2, p2, _⟩ := I.list hb
  cases r2
  have fin : ∀ k, k = xs.isEmpty → EP X pins σ Q (.bool k) s := fun k e => ⟨.bl k, H, I, rfl, by rw [e]; exact q⟩
  by_cases e : us = []
  · subst e
    refine SeqAt.eq_listAt (e := fun _ => true) p1.isList p2.isList rfl (by omega) (fun j h1 _ => absurd h1 (by simp)) (fin _ ?_)
    cases r1; rfl
  · refine SeqAt.eq_list_lengthsAt p1.isList p2.isList (by simp; exact e) (by omega) (fin _ ?_)
    cases r1 with
    | nil => exact absurd rfl e
    | cons => rfl
theorem op_neNil (hu : X.A.units + 64 < cLine) : OpR X (compareOp .NotEq) (rEqNil X.K true) := by
  intro pins s σ H x y v u Q I rx ry h
  obtain ⟨a, b, xs, rfl, rfl, ha, hb, q⟩ := h
  cases (show v = Value.ref a from rx)
  cases (show u = Value.ref b from ry)
  obtain ⟨us, r1, p1, _⟩ := I.list ha
  obtain ⟨ws, r2, p2, _⟩ := I.list hb
  cases r2
  have fin : ∀ k, k = (!xs.isEmpty) → EP X pins σ Q (.bool k) s := fun k e => ⟨.bl k, H, I, rfl, by rw [e]; exact q⟩
  by_cases e : us = []
  · subst e
    refine SeqAt.RcNeAt.lists (e := fun _ => true) p1.isList p2.isList rfl (by omega) (fun j h1 _ => absurd h1 (by simp)) _ _ _ _ (fin _ ?_)
    cases r1; rfl
  · refine SeqAt.RcNeAt.lists_lengths p1.isList p2.isList (by simp; exact e) (by omega) _ _ _ _ (fin _ ?_)
    cases r1 with
    | nil => exact absurd rfl e
    | cons => rfl
theorem op_eqNilT (hu : X.A.units + 64 < cLine) : OpR X (compareOp .Eq) (rEqNilT X.K) := by
  intro pins s σ H x y v u Q I rx ry h
  obtain ⟨a, b, xs, rfl, rfl, ha, hb, q⟩ := h
  cases (show v = Value.ref a from rx)
  cases (show u = Value.ref b from ry)
  obtain ⟨us, r1, p1, _⟩ := I.tuple ha
  obtain ⟨ws, r2, p2, _⟩ := I.tuple hb
  cases r2
  refine SeqAt.eq_tupleAt (e := fun _ => true) p1 p2 (by omega) (fun j _ h2 => absurd h2 (by simp)) ⟨.bl xs.isEmpty, H, I, ?_, q⟩
  cases r1 <;> simp [L2.RelV]
end
section
variable {K : PySem.W.Frag} {σ : L2.St} {G : Hp} {ta tb : TE} {a : Addr} {xs : List V} {kvs : List (Key × V)}
theorem gv_eqNilT (ha : Gv ta σ G (.ref a)) (h : G a = some (.tup xs)) (hb : Gu tb σ G []) : Gv (tOp (rEqNilT K) ta tb) σ G (.bl xs.isEmpty) :=
  gv_opN2 ha hb fun q hq H s Q k => ⟨a, q, xs, rfl, rfl, SqT.of (s.tup (by rw [upd_ne (ne_of_none h hq)]; exact h)), SqT.of (s.tup upd_same), k H (Same.refl H)⟩
theorem gv_eqNil {neg : Bool} (ha : Gv ta σ G (.ref a)) (h : G a = some (.lst xs)) (hb : Gls tb σ G []) : Gv (tOp (rEqNil K neg) ta tb) σ G (.bl (if neg then !xs.isEmpty else xs.isEmpty)) :=
  gv_opN2 ha hb fun q hq H s Q k => ⟨a, q, xs, rfl, rfl, SqL.of (s.lst (by rw [upd_ne (ne_of_none h hq)]; exact h)), SqL.of (s.lst upd_same), k H (Same.refl H)⟩
theorem gv_eqNilN {neg : Bool} (ha : Gls ta σ G xs) (hb : Gls tb σ G []) : Gv (tOp (rEqNil K neg) ta tb) σ G (.bl (if neg then !xs.isEmpty else xs.isEmpty)) :=
  gv_opNN ha hb fun q1 q2 ne h1 h2 H s Q k => ⟨q1, q2, xs, rfl, rfl, SqL.of (s.lst (by rw [upd_ne ne]; exact upd_same)), SqL.of (s.lst upd_same), k H (Same.refl H)⟩
end
end K25

/-! D0 -/
/-! D0: the data and how they lie in the heap. -/
namespace K25
open PySem PySem.Spec PyProof.Rows L2
/-! ### association lists by texts -/
section
variable {α : Type}
def valD (l : List (Str × α)) (k : Str) : Option α := (l.find? fun p => decide (p.1 = k)).map (·.2)
theorem valD_nil (k : Str) : valD ([] : List (Str × α)) k = none := rfl
theorem valD_cons (p : Str × α) (l : List (Str × α)) (k : Str) : valD (p :: l) k = if p.1 = k then some p.2 else valD l k := by
  unfold valD
  rw [List.find?_cons]
  by_cases h : p.1 = k <;> simp [h]
theorem valD_mem {l : List (Str × α)} {k : Str} {x : α} (h : valD l k = some x) : (k, x) ∈ l := by
  induction l with
  | nil => cases h
  | cons p l ih =>
    rw [valD_cons] at h
    by_cases e : p.1 = k
    · rw [if_pos e] at h
      cases h
      rw [← e]
      exact List.mem_cons_self
    · rw [if_neg e] at h
      exact List.mem_cons_of_mem _ (ih h)
theorem valD_of {l : List (Str × α)} (hn : (l.map (·.1)).Nodup) {k : Str} {x : α} (h : (k, x) ∈ l) : valD l k = some x := by
  induction l with
  | nil => cases h
  | cons p l ih =>
    rw [List.map_cons, List.nodup_cons] at hn
    rw [valD_cons]
    rcases List.mem_cons.mp h with e | h
    · rw [← e, if_pos rfl]
    · have ne : ¬ p.1 = k := fun e => hn.1 (by rw [e]; exact List.mem_map.mpr ⟨_, h, rfl⟩)
      rw [if_neg ne]
      exact ih hn.2 h
theorem valD_some {l : List (Str × α)} {k : Str} : (valD l k).isSome = decide (k ∈ l.map (·.1)) := by
  induction l with
  | nil => simp [valD_nil]
  | cons p l ih =>
    rw [valD_cons]
    by_cases e : p.1 = k
    · simp [e]
    · rw [if_neg e, ih]
      simp [show ¬ k = p.1 from fun z => e z.symm]
theorem valD_in {l : List (Str × α)} {k : Str} (h : k ∈ l.map (·.1)) : ∃ x, valD l k = some x := by
  have := valD_some (l := l) (k := k)
  rw [decide_eq_true h] at this
  exact Option.isSome_iff_exists.mp this
end
/-- a relation between values and data, by a heap -/
abbrev RelD (α : Type) : Type := V → α → Hp → Prop
def MonD {α : Type} (R : RelD α) : Prop := ∀ v x G G', Same G G' → R v x G → R v x G'
section
variable {α : Type} {R : RelD α} {G G' : Hp} {a : Addr} {l : List (Str × α)} {xs : List α}
/-- the pairs of a dict -/
def PrD (R : RelD α) (G : Hp) (kvs : List (Key × V)) (l : List (Str × α)) : Prop := All2 (fun kv x => kv.1 = Sum.inr x.1 ∧ R kv.2 x.2 G) kvs l
def DAt (R : RelD α) (G : Hp) (a : Addr) (l : List (Str × α)) : Prop := ∃ kvs, G a = some (.dK kvs) ∧ PrD R G kvs l
def LAt (R : RelD α) (G : Hp) (a : Addr) (xs : List α) : Prop := ∃ vs, G a = some (.lst vs) ∧ All2 (fun v x => R v x G) vs xs
theorem PrD.mono (m : MonD R) (e : Same G G') {kvs : List (Key × V)} (h : PrD R G kvs l) : PrD R G' kvs l := h.imp fun _ _ _ _ r => ⟨r.1, m _ _ _ _ e r.2⟩
theorem DAt.mono (m : MonD R) (e : Same G G') (h : DAt R G a l) : DAt R G' a l := let ⟨kvs, h1, h2⟩ := h; ⟨kvs, e _ _ h1, h2.mono m e⟩
theorem LAt.mono (m : MonD R) (e : Same G G') (h : LAt R G a xs) : LAt R G' a xs := let ⟨vs, h1, h2⟩ := h; ⟨vs, e _ _ h1, h2.imp fun _ _ _ _ r => m _ _ _ _ e r⟩
theorem PrD.get {kvs : List (Key × V)} (h : PrD R G kvs l) (k : Str) : (∀ x, valD l k = some x → ∃ v, valV kvs (Sum.inr k) = some v ∧ R v x G) ∧ (valD l k = none → valV kvs (Sum.inr k) = none) := by
  unfold PrD at h
  induction h with
  | nil => exact ⟨fun x e => (nomatch e), fun _ => rfl⟩
  | @cons kv x l m r _ ih =>
    obtain ⟨r1, r2⟩ := r
    rw [valD_cons]
    by_cases e : x.1 = k
    · rw [if_pos e, valV_pos (by rw [r1, e])]
      exact ⟨fun y ey => by cases ey; exact ⟨_, rfl, r2⟩, fun z => nomatch z⟩
    · rw [if_neg e, valV_neg (by rw [r1]; exact fun z => e (Sum.inr.inj z))]
      exact ih
theorem PrD.some {kvs : List (Key × V)} (h : PrD R G kvs l) (k : Str) : (valV kvs (Sum.inr k)).isSome = (valD l k).isSome := by
  cases e : valD l k with
  | none => rw [(h.get k).2 e] <;> rfl
  | some x =>
    obtain ⟨v, e2, _⟩ := (h.get k).1 x e
    rw [e2] <;> rfl
theorem PrD.keys {kvs : List (Key × V)} (h : PrD R G kvs l) : kvs.map (·.1) = (l.map (·.1)).map Sum.inr := by
  unfold PrD at h
  induction h with
  | nil => rfl
  | cons r _ ih => simp only [List.map_cons]; rw [ih, r.1]
theorem PrD.length {kvs : List (Key × V)} (h : PrD R G kvs l) : kvs.length = l.length := All2.length h
theorem DAt.get (h : DAt R G a l) {k : Str} {x : α} (e : valD l k = some x) : ∃ kvs v, G a = some (.dK kvs) ∧ valV kvs (Sum.inr k) = some v ∧ R v x G :=
  let ⟨kvs, h1, h2⟩ := h; let ⟨v, e2, r⟩ := (h2.get k).1 x e; ⟨kvs, v, h1, e2, r⟩
end
/-! ### fields -/
inductive Fld where
  | mark (ws : List Str) | link (t : Str) | tag
def sMark : Str := "mark"
def sLink : Str := "link"
def sTag : Str := "tag"
def Fld.sort : Fld → Str
  | .mark _ => "mark" | .link _ => "link" | .tag => "tag"
abbrev sL (xs : List Str) : HO := .lst (xs.map V.str)
def FldAt : RelD Fld := fun v f G => match f with
  | .mark ws => ∃ a l, v = .ref a ∧ G a = some (.tup [.str "mark", .ref l]) ∧ G l = some (sL ws)
  | .link t => ∃ a, v = .ref a ∧ G a = some (.tup [.str "link", .str t])
  | .tag => ∃ a, v = .ref a ∧ G a = some (.tup [.str "tag"])
theorem fld_mono : MonD FldAt := fun v f G G' e h => by
  cases f with
  | mark ws => obtain ⟨a, l, h1, h2, h3⟩ := h; exact ⟨a, l, h1, e _ _ h2, e _ _ h3⟩
  | link t => obtain ⟨a, h1, h2⟩ := h; exact ⟨a, h1, e _ _ h2⟩
  | tag => obtain ⟨a, h1, h2⟩ := h; exact ⟨a, h1, e _ _ h2⟩
/-- any field: a tuple that begins with its sort -/
theorem FldAt.any {v : V} {f : Fld} {G : Hp} (h : FldAt v f G) : ∃ a r, v = .ref a ∧ G a = some (.tup (.str f.sort :: r)) := by
  cases f with
  | mark ws => obtain ⟨a, l, h1, h2, _⟩ := h; exact ⟨a, _, h1, h2⟩
  | link t => obtain ⟨a, h1, h2⟩ := h; exact ⟨a, _, h1, h2⟩
  | tag => obtain ⟨a, h1, h2⟩ := h; exact ⟨a, _, h1, h2⟩
abbrev Flds : Type := List (Str × Fld)
abbrev Tbs : Type := List (Str × Flds)
abbrev FsAt : Hp → Addr → Flds → Prop := DAt FldAt
def FsV : RelD Flds := fun v fs G => ∃ a, v = .ref a ∧ FsAt G a fs
theorem fs_mono : MonD FsV := fun v fs G G' e ⟨a, h1, h2⟩ => ⟨a, h1, h2.mono fld_mono e⟩
abbrev TbsAt : Hp → Addr → Tbs → Prop := DAt FsV
/-! ### tests -/
inductive Tst where
  | is (f : Str) (ws : List Str) | non (f : Str) | not (t : Tst)
def TstAt : Tst → V → Hp → Prop
  | .is f ws, v, G => ∃ a l, v = .ref a ∧ G a = some (.tup [.str "is", .str f, .ref l]) ∧ G l = some (sL ws)
  | .non f, v, G => ∃ a, v = .ref a ∧ G a = some (.tup [.str "none", .str f])
  | .not t, v, G => ∃ a u, v = .ref a ∧ G a = some (.tup [.str "not", u]) ∧ TstAt t u G
def TstV : RelD Tst := fun v t G => TstAt t v G
theorem tst_mono : MonD TstV := fun v t G G' e h => by
  unfold TstV at h ⊢
  induction t generalizing v with
  | is f ws => obtain ⟨a, l, h1, h2, h3⟩ := h; exact ⟨a, l, h1, e _ _ h2, e _ _ h3⟩
  | non f => obtain ⟨a, h1, h2⟩ := h; exact ⟨a, h1, e _ _ h2⟩
  | not t ih => obtain ⟨a, u, h1, h2, h3⟩ := h; exact ⟨a, u, h1, e _ _ h2, ih u h3⟩
def Tst.word : Tst → Str
  | .is _ _ => "is" | .non _ => "none" | .not _ => "not"
theorem TstAt.any {v : V} {t : Tst} {G : Hp} (h : TstAt t v G) : ∃ a r, v = .ref a ∧ G a = some (.tup (.str t.word :: r)) := by
  cases t with
  | is f ws => obtain ⟨a, l, h1, h2, _⟩ := h; exact ⟨a, _, h1, h2⟩
  | non f => obtain ⟨a, h1, h2⟩ := h; exact ⟨a, _, h1, h2⟩
  | not t => obtain ⟨a, u, h1, h2, _⟩ := h; exact ⟨a, _, h1, h2⟩
def Tst.dep : Tst → Nat
  | .not t => t.dep + 1
  | _ => 0
abbrev TsAt : Hp → Addr → List Tst → Prop := LAt TstV
def TsV : RelD (List Tst) := fun v ts G => ∃ a, v = .ref a ∧ TsAt G a ts
theorem ts_mono : MonD TsV := fun v fs G G' e ⟨a, h1, h2⟩ => ⟨a, h1, h2.mono tst_mono e⟩
/-! ### rules -/
inductive Rul where
  | link (n t f : Str) (ts th : List Tst) | uniq (n t f : Str) | some (n t : Str) (ts : List Tst) | check (n t : Str) (ts : List Tst)
def Rul.name : Rul → Str
  | .link n .. => n | .uniq n .. => n | .some n .. => n | .check n .. => n
def Rul.kind : Rul → Str
  | .link .. => "link" | .uniq .. => "unique" | .some .. => "some" | .check .. => "check"
def Rul.tab : Rul → Str
  | .link _ t .. => t | .uniq _ t _ => t | .some _ t _ => t | .check _ t _ => t
def RulV : RelD Rul := fun v r G => match r with
  | .link n t f ts th => ∃ a u w, v = .ref a ∧ G a = some (.tup [.str n, .str "link", .str t, .str f, u, w]) ∧ TsV u ts G ∧ TsV w th G
  | .uniq n t f => ∃ a, v = .ref a ∧ G a = some (.tup [.str n, .str "unique", .str t, .str f])
  | .some n t ts => ∃ a u, v = .ref a ∧ G a = some (.tup [.str n, .str "some", .str t, u]) ∧ TsV u ts G
  | .check n t ts => ∃ a u, v = .ref a ∧ G a = some (.tup [.str n, .str "check", .str t, u]) ∧ TsV u ts G
theorem rul_mono : MonD RulV := fun v r G G' e h => by
  cases r with
  | link n t f ts th => obtain ⟨a, u, w, h1, h2, h3, h4⟩ := h; exact ⟨a, u, w, h1, e _ _ h2, ts_mono _ _ _ _ e h3, ts_mono _ _ _ _ e h4⟩
  | uniq n t f => obtain ⟨a, h1, h2⟩ := h; exact ⟨a, h1, e _ _ h2⟩
  | some n t ts => obtain ⟨a, u, h1, h2, h3⟩ := h; exact ⟨a, u, h1, e _ _ h2, ts_mono _ _ _ _ e h3⟩
  | check n t ts => obtain ⟨a, u, h1, h2, h3⟩ := h; exact ⟨a, u, h1, e _ _ h2, ts_mono _ _ _ _ e h3⟩
theorem RulV.any {v : V} {r : Rul} {G : Hp} (h : RulV v r G) : ∃ a x xs, v = .ref a ∧ G a = some (.tup (.str r.name :: .str r.kind :: .str r.tab :: x :: xs)) := by
  cases r with
  | link n t f ts th => obtain ⟨a, u, w, h1, h2, _⟩ := h; exact ⟨a, _, _, h1, h2⟩
  | uniq n t f => obtain ⟨a, h1, h2⟩ := h; exact ⟨a, _, _, h1, h2⟩
  | some n t ts => obtain ⟨a, u, h1, h2, _⟩ := h; exact ⟨a, _, _, h1, h2⟩
  | check n t ts => obtain ⟨a, u, h1, h2, _⟩ := h; exact ⟨a, _, _, h1, h2⟩
abbrev RsAt : Hp → Addr → List Rul → Prop := LAt RulV
/-! ### rows -/
abbrev Row : Type := List (Str × Option Str)
def ov : Option Str → V
  | none => .non
  | some s => .str s
def rowK (r : Row) : List (Key × V) := r.map fun q => (Sum.inr q.1, ov q.2)
def RowV : RelD Row := fun v r G => ∃ a, v = .ref a ∧ G a = some (.dK (rowK r))
theorem row_mono : MonD RowV := fun v r G G' e ⟨a, h1, h2⟩ => ⟨a, h1, e _ _ h2⟩
theorem rowK_val (r : Row) (k : Str) : valV (rowK r) (Sum.inr k) = (valD r k).map ov := by
  induction r with
  | nil => rfl
  | cons q r ih =>
    rw [valD_cons]
    show valV ((Sum.inr q.1, ov q.2) :: rowK r) (Sum.inr k) = _
    by_cases e : q.1 = k
    · rw [valV_pos (by rw [e]), if_pos e] <;> rfl
    · rw [valV_neg (fun z => e (Sum.inr.inj z)), if_neg e, ih]
/-! ### what is well formed -/
def FldOk : Fld → Prop
  | .mark ws => 1 ≤ ws.length ∧ ws.length ≤ 4 ∧ (∀ x ∈ ws, Nm x) ∧ ws.Nodup
  | .link t => Nm t
  | .tag => True
def cnt (s : Str) (fs : Flds) : Nat := (fs.filter fun f => decide (f.2.sort = s)).length
structure FsOk (fs : Flds) : Prop where
  nd : (fs.map (·.1)).Nodup
  nm : ∀ f ∈ fs, Nm f.1
  ok : ∀ f ∈ fs, FldOk f.2
  c1 : cnt "mark" fs ≤ 2
  c2 : cnt "link" fs ≤ 2
  c3 : cnt "tag" fs ≤ 2
  len : fs.length ≤ 6
structure TbsOk (tb : Tbs) : Prop where
  nd : (tb.map (·.1)).Nodup
  nm : ∀ t ∈ tb, Nm t.1
  ok : ∀ t ∈ tb, FsOk t.2
  lo : 1 ≤ tb.length
  hi : tb.length ≤ 3
  lk : ∀ t ∈ tb, ∀ f ∈ t.2, ∀ u, f.2 = .link u → u ∈ tb.map (·.1)
def TstOk (fs : Flds) : Tst → Prop
  | .is f ws => ∃ us, valD fs f = some (.mark us) ∧ ws ≠ [] ∧ ws.length ≤ 4 ∧ ∀ x ∈ ws, x ∈ us
  | .non f => ∃ g, valD fs f = some g ∧ (g.sort = "link" ∨ g.sort = "tag")
  | .not t => TstOk fs t
def TsOk (fs : Flds) (ts : List Tst) : Prop := ts.length ≤ 2 ∧ ∀ t ∈ ts, TstOk fs t ∧ t.dep ≤ 2
def RulOk (tb : Tbs) : Rul → Prop
  | .link _ t f ts th => ∃ fs u gs, valD tb t = some fs ∧ valD fs f = some (.link u) ∧ valD tb u = some gs ∧ TsOk fs ts ∧ TsOk gs th
  | .uniq _ t f => ∃ fs, valD tb t = some fs ∧ valD fs f = some .tag
  | .some _ t ts => ∃ fs, valD tb t = some fs ∧ TsOk fs ts
  | .check _ t ts => ∃ fs, valD tb t = some fs ∧ TsOk fs ts
structure RsOk (tb : Tbs) (rs : List Rul) : Prop where
  nm : ∀ r ∈ rs, Nm r.name
  nd : (rs.map Rul.name).Nodup
  ok : ∀ r ∈ rs, RulOk tb r
  len : rs.length ≤ 4
end K25

/-! K6 -/
/-! K6: len(set(xs)) of different texts. -/
namespace K25S
open PySem PySem.Spec PyProof.Rows SS
section
variable {prog : Program} {w : World} {A : Around} {R : Result → Shared → Prop} {I : Addr} {fp wr : List Addr} {G : Array GenState → Array GenState → Prop} {n : Nat} {P : Nat → Value → Prop} {St : Nat → Shared → Prop}
theorem lsLoop (W : WalksS prog w A.in1 I fp wr G n P St) (S : Addr) (hSf : S ∉ fp) (xs : List Str) (hsz : xs.length = n) (hnd : xs.Nodup) (hn1 : n ≤ 1000)
    (hval : ∀ i v, P i v → ∃ t, v = .str (xs.getD i Str.empty) t) :
    ∀ (k i : Nat) (s : Shared), n - i = k → i ≤ n → St i s →
      s.heap.SetOf (PySem.strKind prog w) S (fun k' => (xs.take i).any (· == k')) i →
      (∀ s', Moved (S :: wr) G s s' → s'.heap.SetOf (PySem.strKind prog w) S (fun k' => (xs.take n).any (· == k')) n → R (.ok (.ret .none)) s') →
      codeAny (model prog w) A (.builtin "set.update.loop" ⟨[.ref S, .ref I], []⟩) R s := by
  have hSw : S ∉ wr := fun h => hSf (W.sub _ h)
  have hsub : ∀ b ∈ wr, b ∈ S :: wr := fun b hb => List.mem_cons_of_mem _ hb
  intro k
  induction k with
  | zero =>
    intro i s hk hi hst hS hR
    have hin : i = n := by omega
    subst hin
    refine codeAny_builtin PyProof.Rows.F.entry_set_update_loop ?_
    rw [Around.under_plainId PyProof.Rows.F.plain_set_update_loop _]
    show wpAny _ A.in1 (pyNext (.ref I) >>= _) _ _ s
    refine wpAny_bind (W.done s _ _ hst fun s' hm => ?_)
    show wpAny _ A.in1 (ret Value.none) _ _ s'
    exact wpAny_pure (hR s' (hm.mono hsub) (by
      obtain ⟨o, es, ep, t, ho, rest⟩ := hS
      exact ⟨o, es, ep, t, hm.heap S _ hSw ho, rest⟩))
  | succ k ih =>
    intro i s hk hi hst hS hR
    have hlt : i < n := by omega
    refine codeAny_builtin PyProof.Rows.F.entry_set_update_loop ?_
    rw [Around.under_plainId PyProof.Rows.F.plain_set_update_loop _]
    show wpAny _ A.in1 (pyNext (.ref I) >>= _) _ _ s
    refine wpAny_bind (W.item i s _ _ hlt hst fun v s' hP hst' hm => ?_)
    obtain ⟨t, rfl⟩ := hval i v hP
    have hS' : s'.heap.SetOf (PySem.strKind prog w) S (fun k' => (xs.take i).any (· == k')) i := by
      obtain ⟨o, es, ep, tb, ho, rest⟩ := hS
      exact ⟨o, es, ep, tb, hm.heap S _ hSw ho, rest⟩
    show wpAny _ A.in1 (holding [Value.str (xs.getD i Str.empty) t] (setAdd S (.str (xs.getD i Str.empty) t)) >>= _) _ _ s'
    refine wpAny_bind (wpAny_holding ?_)
    unfold setAdd
    refine wpAny_holding ?_
    refine wpAny_bind ((PySem.strKind prog w).pyHash (k := xs.getD i Str.empty) (strKind_is _ _ _ _) ?_)
    refine wpAny_setAddHashed_of (knd := PySem.strKind prog w) (s := { s' with toks := s'.toks + 1 }) (strKind_is _ _ _ _) rfl hS' (by unfold scanBound; omega) fun h' hsb hS2 => ?_
    have hSi : h'.SetOf (PySem.strKind prog w) S (fun k' => (xs.take (i + 1)).any (· == k')) (i + 1) := by
      have hix : i < xs.length := by omega
      have gx : xs.getD i Str.empty = xs[i] := by rw [List.getD_eq_getElem?_getD, List.getElem?_eq_getElem hix] <;> rfl
      have tk1 : xs.take (i + 1) = xs.take i ++ [xs[i]] := by rw [List.take_succ, List.getElem?_eq_getElem hix] <;> rfl
      have nin : (xs.take i).any (fun y => y == xs[i]) = false := by
        rw [List.any_eq_false]
        intro y hy e
        obtain ⟨j, hj, ej⟩ := List.mem_iff_getElem.mp hy
        rw [List.length_take] at hj
        rw [List.getElem_take] at ej
        have : j = i := (List.getElem_inj hnd).mp (ej.trans (eq_of_beq e))
        omega
      rw [gx] at hS2
      refine SetOf_congr hS2 (fun k' => ?_) (by simp only [nin]; rfl)
      rw [tk1, List.any_append]
      have e1 : ([xs[i]].any fun y => y == k') = decide (k' = xs[i]) := by
        by_cases e : k' = xs[i]
        · rw [decide_eq_true e, e] <;> simp
        · rw [decide_eq_false e]
          simp only [List.any_cons, List.any_nil, Bool.or_false, beq_eq_false_iff_ne]
          exact fun z => e z.symm
      rw [e1]
    refine wpAny_pure ⟨plainId_quiet PyProof.Rows.F.plain_set_update_loop _, ih (i + 1) _ (by omega) hlt (W.frame _ s' _ _ hst' (Nat.le_succ _) fun b hb o e => ?_) hSi fun s'' hm'' hS'' => ?_⟩
    · rw [hsb.2 b (fun h : b = S => hSf (by rw [← h]; exact hb))]; exact e
    · refine hR s'' (Moved.trans W.gtrans ((hm.mono hsub).then_heap (Nat.le_succ _) fun b o hb e => ?_) hm'') hS''
      rw [hsb.2 b (fun h : b = S => hb (by rw [h]; exact List.mem_cons_self))]; exact e
end

section
variable {prog : Program} {w : World} {A : Around} {E : Value → Shared → Prop} {s : Shared}
set_option maxHeartbeats 3200000 in
theorem lsCall {l : Addr} {items : Array Value} {xs : List Str} {Q : Value → Shared → Prop}
    (hh : A.handled = none) (hl : s.heap.IsList l items) (hi : PyProof.Rows.StrsAre items.toList xs) (hnd : xs.Nodup) (hn1 : xs.length ≤ 1000)
    (h : ∀ (h' : Heap) (tk : Nat), h'.SetOf (PySem.strKind prog w) s.heap.objs.size (fun k' => (xs.take items.size).any (· == k')) items.size →
      (∀ b o, b < s.heap.objs.size → s.heap.get? b = some o → h'.get? b = some o) → Q (.ref s.heap.objs.size) { s with heap := h', toks := tk }) :
    wpAny (model prog w) A (call (.type "set") [.ref l]) Q E s := by
  obtain ⟨c, tl, hmro⟩ := PySem.F.called_set.mro
  have hmade := PySem.F.called_set.made
  have hsub := PySem.F.called_set.sub
  refine wpAny_call (codeAny_of_tree ?_)
  show wpAny _ _ (callAny (.type "set") _) _ _ _
  refine wpAny_pure ⟨Code.quiet_builtin _ (by decide +kernel), codeAny_builtin PySem.F.entry_type_call ?_⟩
  rw [Around.under_plain (weight_type_call_type "set" [.ref l] []) rfl]
  have h1 := PySem.F.called_set.notType
  have h2 := PySem.F.called_set.canCreate
  have hct := PySem.F.typeCall_set_1 (.ref l)
  repeat (any_goals (first | assumption | wp_step))

  refine codeAny_mono (code_set_new_1 (.ref l) (E := E) (Q₁ := fun obj s₁ => ∃ led : Bool, obj = .ref s.heap.objs.size ∧ s₁ = { s with heap := s.heap.push { cls := .type "set", dict := none, data := .set #[] 0 (.fresh 0 0 led) } }) fun led => ⟨led, rfl, rfl⟩) fun r s₁ hr => ?_
  cases r with
  | error e => exact hr
  | ok fl =>
    cases fl with
    | ret obj =>
      obtain ⟨led, rfl, rfl⟩ := hr
      have hS : (s.heap.push { cls := .type "set", dict := none, data := .set #[] 0 (.fresh 0 0 led) }).get? s.heap.objs.size = some { cls := .type "set", dict := none, data := .set #[] 0 (.fresh 0 0 led) } := Heap.get?_push_size _ rfl
      have hT : Shared.TypeIs { s with heap := s.heap.push { cls := .type "set", dict := none, data := .set #[] 0 (.fresh 0 0 led) } } (.ref s.heap.objs.size) "set" := ⟨_, hS, rfl⟩
      have hli := PySem.F.called_set.init.lookup
      have hbi := PySem.F.called_set.init.bind (.ref s.heap.objs.size)
      repeat (any_goals (first | assumption | wp_step))

      refine codeAny_mono (codeAny_call_builtin (R := wants (fun r s₂ => r = .none ∧ ∃ h' tk, s₂ = { s with heap := h', toks := tk } ∧
          h'.SetOf (PySem.strKind prog w) s.heap.objs.size (fun k' => (xs.take items.size).any (· == k')) items.size ∧
          (∀ b o, b < s.heap.objs.size → s.heap.get? b = some o → h'.get? b = some o)) E) PySem.F.called_set.init.plain PySem.F.entry_set_init (check_set_init_1 hT ?_)) fun r₂ s₂ hr₂ => ?_
      · obtain ⟨ol, hol, hcl, nl, hdl⟩ := hl
        obtain ⟨ocls, odict, odata, oslots⟩ := ol
        simp only at hcl hdl
        subst hcl; subst hdl
        have hol' : (s.heap.push { cls := .type "set", dict := none, data := .set #[] 0 (.fresh 0 0 led) }).get? l = some { cls := .type "list", dict := odict, data := .seq items nl, slots := oslots } := Heap.get?_push_of_some _ hol
        have hsls := PySem.F.sub_list_set
        have hslf := PySem.F.sub_list_frozenset
        have hne : (Value.type "list" == Value.type "dict") = false := by decide
        have hl1 : (s.heap.push { cls := .type "set", dict := none, data := .set #[] 0 (.fresh 0 0 led) }).IsList l items := ⟨_, hol', rfl, nl, rfl⟩
        unfold Builtin.«set.__init__» noKeywords Builtin.Frozenset.updateFrom
        generalize hPI : pyIter = PI
        wp_walk
        subst hPI

        refine wpAny_pyIter_list hl1 ?_
        refine wpAny_bind (wpAny_runValue ?_)
        have hlS : l < s.heap.objs.size := Heap.lt_size hol
        have hh3 : A.in1.in1.in1.handled = none := by simp [hh]
        have hneI : l ≠ (s.heap.push { cls := .type "set", dict := none, data := .set #[] 0 (.fresh 0 0 led) }).objs.size := by
          rw [Heap.size_push]; exact Nat.ne_of_lt (Nat.lt_succ_of_lt hlS)
        have hSf : s.heap.objs.size ∉ [(s.heap.push { cls := .type "set", dict := none, data := .set #[] 0 (.fresh 0 0 led) }).objs.size, l] := by
          rw [Heap.size_push]; simp only [List.mem_cons, List.mem_singleton, List.not_mem_nil, or_false, not_or]
          exact ⟨Nat.ne_of_lt (Nat.lt_succ_self _), Nat.ne_of_gt hlS⟩
        have hsz : xs.length = items.size := by rw [← StrsAre.len_eq hi, Array.length_toList]
        have hval : ∀ (i : Nat) (v : Value), items[i]? = some v → ∃ t, v = .str (xs.getD i Str.empty) t := fun i v hv => strs_at hi i v (by rw [Array.getElem?_toList]; exact hv)
        refine lsLoop ((Walks.list hh3 _ l hneI items).toS) s.heap.objs.size
          hSf xs hsz hnd (by rw [← hsz]; exact hn1) hval (items.size - 0) 0 _ (by omega) (Nat.zero_le _)
          ⟨⟨_, Heap.get?_push_size _ rfl, rfl, rfl⟩, (hl1.push _)⟩ ?hS0 ?hR
        case hS0 =>
          have hget : ((s.heap.push { cls := .type "set", dict := none, data := .set #[] 0 (.fresh 0 0 led) }).push { cls := .type "list_iterator", data := .fields #[.ref l, .int 0 0] }).get? s.heap.objs.size
              = some { cls := .type "set", dict := none, data := .set #[] 0 (.fresh 0 0 led) } := Heap.get?_push_of_some _ hS
          exact PyProof.Rows.SetOf_congr ((PyProof.Rows.setObjOf_fresh (knd := PySem.strKind prog w) led).setOf hget (by unfold scanBound; omega)) (fun _ => rfl) rfl
        case hR =>
          intro s' hm hS'
          obtain ⟨h', g', d', tk', os'⟩ := s'
          have eg : g' = s.gens := hm.gens
          have ed : d' = s.drawn := hm.drawn
          have eo : os' = s.os := hm.os
          subst eg; subst ed; subst eo
          show wpAny _ _ _ _ _ _
          refine wpAny_pure ?_
          show wpAny _ _ (ret Value.none) _ _ _
          refine wpAny_pure ⟨rfl, h', tk', rfl, hS', fun b o hb e => ?_⟩
          have hb1 : b ≠ s.heap.objs.size := Nat.ne_of_lt hb
          have hb2 : b ≠ (s.heap.push { cls := .type "set", dict := none, data := .set #[] 0 (.fresh 0 0 led) }).objs.size := by
            rw [Heap.size_push]; exact Nat.ne_of_lt (Nat.lt_succ_of_lt hb)
          exact hm.heap b o (by simp only [List.mem_cons, List.mem_singleton, List.not_mem_nil, or_false, not_or]; exact ⟨hb1, hb2⟩) (Heap.get?_push_of_some _ (Heap.get?_push_of_some _ e))

      · cases r₂ with
        | error e => exact hr₂
        | ok fl₂ =>
          cases fl₂ with
          | ret r =>
            obtain ⟨rfl, h', tk, rfl, hS', hk'⟩ := hr₂
            repeat (any_goals (first | assumption | wp_step))
            exact h _ _ hS' hk'
          | _ => exact hr₂.elim
    | _ => exact hr.elim

end
end K25S
namespace K25
open PySem PySem.Spec PyProof.Rows L2
/-- len(set(xs)), xs different texts -/
def tLsS (K : PySem.W.Frag) (ta : TE) : TE := fun σ H Q => ta σ H fun x H1 => ∃ l, ∃ xs : List Str, x = .ref l ∧ SqL K H1 l (xs.map V.str) ∧ xs.Nodup ∧ xs.length ≤ 1000 ∧ Q (.int xs.length) H1
theorem pe_lenSetS {X : Cx} {a : Expr} {ta : TE} {p p2 q pos : Pos} (hc : X.calm = true) (hg : L2.Gl X "len") (hm : X.mg "len" = none) (hg2 : L2.Gl X "set") (hm2 : X.mg "set" = none) (ha : PE X a ta)
    (na : starEach [a] X.env = (false, eval a X.env) :: starEach [] X.env := by rfl) : PE X (.Call (.Name "len" p) [.Call (.Name "set" p2) [a] [] q] [] pos) (tLsS X.K ta) := by
  refine ⟨fun pins s σ H Q I h => Call_ (ld_blt I hg hm boot_len (PyProof.Rows.callWith_builtin1 (PyProof.Rows.args_cons (Call_ (ld_blt I hg2 hm2 boot_set
    (PyProof.Rows.callWith_type1 (PyProof.Rows.args_cons (thn (ha.run pins s σ H _ I h) fun v s1 ⟨x, H1, I1, r1, q1⟩ => PyProof.Rows.args_nil ?_) na) na rfl))) rfl) rfl rfl))⟩
  obtain ⟨l, xs, rfl, hq, hnd, h1, q1⟩ := q1
  cases r1
  obtain ⟨its, r, pl, hz⟩ := I1.list hq
  have hl : its.toArray.size = xs.length := by rw [List.size_toArray, ← r.length, List.length_map]
  refine K25S.lsCall (I1.ok.hd hc) pl.isList (by simpa using strsAre_of r) hnd h1 fun h' tk hS hk => PyProof.Rows.args_nil ?_
  rw [hl] at hS
  obtain ⟨o, es, ep, t, ho, hex, hd, _, _, _, hf, hn⟩ := hS
  have I2 : Inv X pins σ H1 { s1 with heap := h', toks := tk } := I1.kept fun b o e => hk b o (Heap.lt_size e) e
  exact call_len_set ho hex hd hf (by rw [hn]; omega) ⟨.int xs.length, H1, I2.tok _, ⟨_, by rw [hn]⟩, q1⟩
theorem gv_lenSet {K : PySem.W.Frag} {σ : L2.St} {G : Hp} {te : TE} {a : Addr} {xs : List Str} (h : Gv te σ G (.ref a)) (ha : G a = some (sL xs)) (nd : xs.Nodup) (hl : xs.length ≤ 1000) : Gv (tLsS K te) σ G (.int xs.length) := fun H s _ q =>
  h H s _ fun H1 e1 => ⟨a, xs, rfl, SqL.of ((s.same e1).lst ha), nd, hl, q H1 e1⟩
end K25

/-! F2 -/
namespace K25
open PySem PySem.Spec PyProof.Rows L2
section
variable {X : Cx}
/-! the same rules, K by a name (within comprehensions) -/
theorem pe_bmK {K : PySem.W.Frag} {o e : Expr} {es : List Expr} {to : TE} {t : TA} {name : Str} {apos cpos : Pos} {T id : String} {r : V → List V → Hp → VK → Prop} (hK : X.K = K) (pa : PlainAttrs T) (slot : Slot T name id) (hty : typeOf (.builtin id) = pure (.type "method_descriptor")) (hm : MtR X id r) (ho : PE X o to) (ha : PA X (e :: es) t)
    (hbase : attributeBase o name X.env (eval o X.env) = eval o X.env := by rfl)
    (hfew : ((backTo cpos (starEach (e :: es) X.env)).all (fun x => !x.1) && (backToKw cpos (keywordEach [] X.env)).all (fun x => x.1.isSome)
      && decide ((e :: es).length + ([] : List Keyword).length + (if ([] : List Keyword).isEmpty then 0 else 1) < 30)) = true := by rfl)
    (hline : (apos.endLine == cpos.line) = true := by rfl) (hs : starEach (e :: es) X.env = (false, eval e X.env) :: starEach es X.env := by rfl) (hplain : (backTo cpos (starEach es X.env)).any (·.1) = false := by rfl) :
    PE X (.Call (.Attribute o name apos) (e :: es) [] cpos) (tBM K T r to t) := by
  subst hK
  exact pe_bm pa slot hty hm ho ha hbase hfew hline hs hplain
theorem pi_listK {K : PySem.W.Frag} {tg l : Expr} {tl : TE} (hK : X.K = K) (hl : PE X l tl) : PI X tg l (iList K tl) := by subst hK; exact pi_list hl
theorem pi_tupK {K : PySem.W.Frag} {tg l : Expr} {tl : TE} (hK : X.K = K) (hl : PE X l tl) : PI X tg l (iTup K tl) := by subst hK; exact pi_tup hl
theorem pg_tupK {K : PySem.W.Frag} {es : List Expr} {k : Nat} {t : TGs} {n : Nat} {pos : Pos} (hK : X.K = K) (hc : X.calm = true) (h : PGs X es t)
    (hn : (assignEach es X.env).length = n := by rfl) (hst : (assignEach es X.env).findIdx? (·.1) = none := by rfl) : PG X (.Tuple es k pos) (gTup K n t) := by subst hK; exact pg_tup hc h hn hst
theorem pe_fldK {K : PySem.W.Frag} {e : Expr} {ta : TE} {f : Str} {pos : Pos} (hK : X.K = K) (he : PE X e ta) (hb : attributeBase e f X.env (eval e X.env) = eval e X.env) : PE X (.Attribute e f pos) (tFld K ta f) := by subst hK; exact pe_fld he hb
/-- xs.count(k), texts -/
def rCountS (K : PySem.W.Frag) : V → List V → Hp → VK → Prop := fun x vs H Q => ∃ (a : Addr) (xs : List Str) (k : Str), x = V.ref a ∧ vs = [.str k] ∧ SqL K H a (xs.map V.str) ∧ Q (.int ((xs.filter fun y => decide (y = k)).length : Nat)) H
theorem at0 {α : Type} (x : α) (r : List α) : atI (x :: r) 0 = some x := by
  unfold atI ixN
  simp
theorem atN {α : Type} {xs : List α} {j : Nat} {x : α} (h : xs[j]? = some x) : atI xs (j : Int) = some x := by
  obtain ⟨hj, _⟩ := List.getElem?_eq_some_iff.mp h
  unfold atI ixN
  rw [if_pos (by omega), if_pos (by omega)]
  simpa using h
theorem cntI (k : Str) (xs : List Str) : PySem.Spec.countIn (.str k) (xs.map PyData.str) = (((xs.filter fun y => decide (y = k)).length : Nat) : Int) := by
  induction xs with
  | nil => rfl
  | cons x xs ih =>
    rw [List.map_cons, PySem.Spec.countIn, ih, List.filter_cons]
    by_cases e : x = k
    · subst e
      simp [PySem.Spec.same]
      omega
    · simp [PySem.Spec.same, e]
theorem mt_countS : MtR X "list.count" (rCountS X.K) := by
  intro pins s σ H x vs v us Q I rx rxs h
  obtain ⟨a, xs, k, rfl, rfl, hs, q⟩ := h
  cases rx
  obtain ⟨u, rfl, ru⟩ := vals1 rxs
  obtain ⟨t, rfl⟩ := ru
  obtain ⟨its, rv, hl, _⟩ := I.list hs
  refine PyProof.Rows.count_list_strs hl.isList rv.strs ⟨.int _, H, I.tok _, ⟨_, rfl⟩, ?_⟩
  rw [cntI]
  exact q
theorem ix_listK {K : PySem.W.Frag} (hK : X.K = K) : IxR X (rIxL K) := by subst hK; exact ix_list
theorem ix_tupK {K : PySem.W.Frag} (hK : X.K = K) : IxR X (rIxT K) := by subst hK; exact ix_tup
theorem op_in_seqK {K : PySem.W.Frag} (hK : X.K = K) : OpR X (compareOp .In) (rIn K false) := by subst hK; exact op_in_seq
theorem op_notIn_seqK {K : PySem.W.Frag} (hK : X.K = K) : OpR X (compareOp .NotIn) (rIn K true) := by subst hK; exact op_notIn_seq
theorem call_isiK {K : PySem.W.Frag} (hK : X.K = K) : CallR X (.builtin "isinstance") (rIsi K) := by subst hK; exact call_isi
theorem call_isiTK {K : PySem.W.Frag} (hK : X.K = K) : CallR X (.builtin "isinstance") (rIsiT K) := by subst hK; exact call_isiT
theorem sl_listK {K : PySem.W.Frag} (hK : X.K = K) : SlR X (rSlL K) := by subst hK; exact sl_list
theorem call_len_seqK {K : PySem.W.Frag} (hK : X.K = K) : CallR X (.builtin "len") (fun xs H Q => ∃ p ys, xs = [.ref p] ∧ (SqL K H p ys ∨ SqT K H p ys) ∧ Q (.int ys.length) H) := by subst hK; exact call_len_seq
theorem op_catTK {K : PySem.W.Frag} (hK : X.K = K) : OpR X (binaryOp .Add) (rCatT K) := by subst hK; exact op_catT
theorem mt_countSK {K : PySem.W.Frag} (hK : X.K = K) : MtR X "list.count" (rCountS K) := by subst hK; exact mt_countS
theorem sl_tupK {K : PySem.W.Frag} (hK : X.K = K) : SlR X (rSlT K) := by subst hK; exact sl_tup
theorem mt_indexK {K : PySem.W.Frag} (hK : X.K = K) : MtR X "list.index" (rIndex K) := by subst hK; exact mt_index
theorem cr_sortedSK {K : PySem.W.Frag} (hK : X.K = K) : CallR X (.builtin "sorted") (rSortedS K) := by subst hK; exact cr_sortedS
theorem cr_allK {K : PySem.W.Frag} (hK : X.K = K) (hc : X.calm = true) : CallR X (.builtin "all") (rAll K) := by subst hK; exact cr_all hc
theorem cr_anyK {K : PySem.W.Frag} (hK : X.K = K) (hc : X.calm = true) : CallR X (.builtin "any") (rAny K) := by subst hK; exact cr_any hc
theorem cr_maxK {K : PySem.W.Frag} (hK : X.K = K) (hc : X.calm = true) : CallR X (.builtin "max") (rMax K) := by subst hK; exact cr_max hc
theorem op_eqTK {K : PySem.W.Frag} (hK : X.K = K) (hu : X.A.units + 64 < cLine) : OpR X (compareOp .Eq) (rEqT K) := by subst hK; exact op_eqT hu
theorem op_neTK {K : PySem.W.Frag} (hK : X.K = K) (hu : X.A.units + 64 < cLine) : OpR X (compareOp .NotEq) (rNeT K) := by subst hK; exact op_neT hu
theorem op_eqNilK {K : PySem.W.Frag} (hK : X.K = K) (hu : X.A.units + 64 < cLine) : OpR X (compareOp .Eq) (rEqNil K false) := by subst hK; exact op_eqNil hu
theorem op_neNilK {K : PySem.W.Frag} (hK : X.K = K) (hu : X.A.units + 64 < cLine) : OpR X (compareOp .NotEq) (rEqNil K true) := by subst hK; exact op_neNil hu
theorem op_eqNilTK {K : PySem.W.Frag} (hK : X.K = K) (hu : X.A.units + 64 < cLine) : OpR X (compareOp .Eq) (rEqNilT K) := by subst hK; exact op_eqNilT hu
end
end K25

/-! F1 -/
namespace K25
open PySem PySem.Spec PyProof.Rows L2
section
variable {P : Program} {w : World} {K : PySem.W.Frag} {mg : Str → Option Value} {base : Heap}
abbrev N_is_name : List Str := ["thing", "sign"]
theorem sc_is_name : FnScope N_is_name ["thing"] (defScope s_is_name) := ⟨rfl, rfl, rfl, by decide +kernel, rfl, by decide +kernel, by decide +kernel⟩
-- slots: 0 thing, 1 sign
theorem c_is_name (T : Tx K mg) : Cal P w K mg base 1 "is_name" spIsName := by
  refine ⟨_, _, ["thing"], fn_body T.f_is_name sc_is_name (fun vs H Q E h => by obtain ⟨s, rfl, _⟩ := h; rfl) (fun cdv A outer s H vs Q E hr h => ?_), T.g_is_name, T.f_is_name.kp, T.f_is_name.bindsN fun _ _ _ _ _ _ us hl => match us, hl with | [_], _ => rfl⟩
  obtain ⟨z, rfl, hz, k⟩ := h
  have hu := hu_of hr
  refine ⟨_,
    (pss_cons (ps_if (PW.pt (pw_or (pt_not (pt_val (pe_callB (call_isiK rfl) (by rfl) T.b_isinstance (by decide +kernel) (pa_cons (pv 0) (pa_cons (pe_bltn (v := .ty "str") (by rfl) T.b_str (by decide +kernel) rfl) pa_nil))))) (pw_or1 (pt_not (pt_chain op_le op_le pe_int (pe_callB call_len_str (by rfl) T.b_len (by decide +kernel) (pa_cons (pv 0) pa_nil)) pe_int)))))
      (pss_one (ps_ret pe_bl))
      pss_nil)
    (pss_one (ps_ret (pe_callB (cr_allK rfl rfl) (by rfl) T.b_all (by decide +kernel) (pa_cons (pe_lc rfl sc_is_name.nd (pi_str (pv 0)) (blkOk_by (own := [("sign", 1)]) (N := N_is_name) (sc := defScope s_is_name) (by decide +kernel)) (fun _ _ _ _ _ => (pg_name (i := 1) sc_is_name.nd rfl (Or.inl rfl))) (fun _ _ _ _ _ => pts_nil) (fun _ _ _ _ _ => (pe_cmpR op_in_sign (pv 1) (pe_gstr rfl T.LETTERS) (by rfl)))) pa_nil))))), ?_⟩
  have h8 : z.length ≤ sizeLine := Nat.le_trans hz.2.1 (by decide)
  refine q_no (Sub.refl H) (gt_eq ?_ (gt_or (gt_not (gt_B (gv_isiY (gv_var rfl) ty_str))) fun _ => gt_not (gt_test (gv_chain gv_c (gv_lenS (gv_var rfl) h8) rv_I0 (fun _ => gv_c) fun _ => rv_I0)))) fun H1 e1 => ?_
  · have := hz.1; have := hz.2.1; simp; omega
  refine s_ret (Sub.refl H1) (gv_eq ?_ (gv_all (bs := z.cps.toList.map fun _ => true) ?_)) fun H2 e2 => k H2 (e1.trans e2)
  · simp
  · refine gn_eq ?_ (gl_lc (pf := fun _ => true) (fun c => V.bl (decide (c ∈ ("abcdefghijklmnopqrstuvwxyz" : Str).cps.toList))) (gi_str (gv_var rfl)) (by have := hz.2.1; simp [Str.length] at this ⊢; omega) (fun c hc => rfl) (fun c hc => gt_yes) fun c hc _ => gv_inS (gv_var rfl) gv_c)
    rw [List.filter_eq_self.mpr (fun _ _ => rfl), List.map_map]
    refine congrArg HO.lst (List.map_congr_left fun c hc => ?_)
    show V.bl (decide _) = V.bl true
    rw [decide_eq_true (letters_in (hz.2.2 c hc))]
end
end K25

/-! F3 -/
namespace K25
open PySem PySem.Spec PyProof.Rows L2
section
variable {P : Program} {w : World} {K : PySem.W.Frag} {mg : Str → Option Value} {base : Heap}
--@NEVER is_id | is_new_id(thing)
abbrev N_is_id : List Str := ["thing"]
theorem sc_is_id : FnScope N_is_id ["thing"] (defScope s_is_id) := ⟨rfl, rfl, rfl, by decide +kernel, rfl, by decide +kernel, by decide +kernel⟩
-- slots: 0 thing
theorem c_is_id (T : Tx K mg) : Cal P w K mg base 2 "is_id" spIsName := by
  refine ⟨_, _, ["thing"], fn_body T.f_is_id sc_is_id (fun vs H Q E h => by obtain ⟨_, rfl, _⟩ := h; rfl) (fun cdv A outer s H vs Q E hr h => ?_), T.g_is_id, T.f_is_id.kp, T.f_is_id.bindsN fun _ _ _ _ _ _ us hl => match us, hl with | [_], _ => rfl⟩
  obtain ⟨z, rfl, hz, k⟩ := h
  have hu := hu_of hr
  refine ⟨_,
    (pss_one (ps_ret (pe_or (pe_cal (c_is_name T) hr (by decide) rfl (pa_cons (pv 0) pa_nil)) (pe_one pe_nev)))), ?_⟩
  exact s_ret (Sub.refl H) (gv_orV (b := true) (c := true) (gv_call (ga_cons (gv_var rfl) ga_nil) (sv_isName hz)) (fun z => nomatch z)) k
--@NEVER is_tag_name | REST:if not isinstance(thing, str) or (not thing.startswith('+')):
abbrev N_is_tag_name : List Str := ["thing", "parts"]
theorem sc_is_tag_name : FnScope N_is_tag_name ["thing"] (defScope s_is_tag_name) := ⟨rfl, rfl, rfl, by decide +kernel, rfl, by decide +kernel, by decide +kernel⟩
-- slots: 0 thing, 1 parts
theorem c_is_tag_name (T : Tx K mg) : Cal P w K mg base 2 "is_tag_name" spIsName := by
  refine ⟨_, _, ["thing"], fn_body T.f_is_tag_name sc_is_tag_name (fun vs H Q E h => by obtain ⟨_, rfl, _⟩ := h; rfl) (fun cdv A outer s H vs Q E hr h => ?_), T.g_is_tag_name, T.f_is_tag_name.kp, T.f_is_tag_name.bindsN fun _ _ _ _ _ _ us hl => match us, hl with | [_], _ => rfl⟩
  obtain ⟨z, rfl, hz, k⟩ := h
  have hu := hu_of hr
  refine ⟨_,
    (pss_cons (ps_if (pt_val (pe_cal (c_is_name T) hr (by decide) rfl (pa_cons (pv 0) pa_nil)))
      (pss_one (ps_ret pe_bl))
      pss_nil)
    (pss_cons (ps_if (PW.pt (pw_or (pt_not (pt_val (pe_callB (call_isiK rfl) (by rfl) T.b_isinstance (by decide +kernel) (pa_cons (pv 0) (pa_cons (pe_bltn (v := .ty "str") (by rfl) T.b_str (by decide +kernel) rfl) pa_nil))))) (pw_or1 (pt_not (pt_val (pe_bmK rfl PySem.F.plainAttrs_str PySem.F.slot_str_startswith PySem.F.type_str_startswith mt_startswith (pv 0) (pa_cons pe_str pa_nil)))))))
      (pss_one (ps_ret pe_bl))
      pss_nil)
    (pss_cons (ps_set (i := 1) sc_is_tag_name.nd rfl (Or.inl rfl) (pe_split (pe_slice sl_str (pv 0) (po_some pe_int) po_none) pe_str))
    (pss_one (ps_ret (pe_and (pe_cmpR op_eq (pe_callB (call_len_seqK rfl) (by rfl) T.b_len (by decide +kernel) (pa_cons (pv 1) pa_nil)) pe_int (nomark _)) (pe_and (pe_cal (c_is_name T) hr (by decide) rfl (pa_cons (pe_ix (ix_listK rfl) (pv 1) pe_int (fun _ _ => rfl)) pa_nil)) (pe_one (pe_cal (c_is_name T) hr (by decide) rfl (pa_cons (pe_ix (ix_listK rfl) (pv 1) pe_int (fun _ _ => rfl)) pa_nil)))))))))), ?_⟩
  refine q_yes (Sub.refl H) (gt_test (gv_call (ga_cons (gv_var rfl) ga_nil) (sv_isName hz))) fun H1 e1 => ?_
  exact s_ret (Sub.refl H1) gv_c fun H2 e2 => k H2 (e1.trans e2)
/-- list of names: all names -/
theorem gv_names {σ : L2.St} {G : Hp} {j : Nat} {t tl : TE} {a : Addr} {ws : List Str} {vs : List Nat} (hl : Gv tl σ G (.ref a)) (ha : G a = some (sL ws)) (hz : ws.length ≤ 100000) (hw : ∀ d ∈ ws, wipe (upN j V.str d (wipe σ vs)) vs = wipe σ vs)
    (he : ∀ d ∈ ws, Gv t (upN j V.str d (wipe σ vs)) G (.bl true)) : Gv (tCB (rAll K) (tCons (tLc (iList K tl) (gName j) tYes t vs) tNil)) σ G (.bl true) := by
  refine gv_eq ?_ (gv_all (bs := ws.map fun _ => true) ?_)
  · simp
  · refine gn_eq ?_ (gl_lc (pf := fun _ => true) (fun _ => V.bl true) (gi_list (emb := V.str) hl ha) hz hw (fun _ _ => gt_yes) fun d hd _ => he d hd)
    rw [List.filter_eq_self.mpr (fun _ _ => rfl), List.map_map]
    rfl
def spIsField : Sp := fun vs H Q _ => ∃ v f G, vs = [v] ∧ Sub G H ∧ FldAt v f G ∧ FldOk f ∧ ∀ H', Same H H' → Q (.bl true) H'
theorem sv_isField {G : Hp} {v : V} {f : Fld} (h : FldAt v f G) (ok : FldOk f) : Sv spIsField [v] G (.bl true) := fun H s Q E q => ⟨v, f, G, rfl, s, h, ok, q⟩
abbrev N_is_field : List Str := ["thing", "word"]
theorem sc_is_field : FnScope N_is_field ["thing"] (defScope s_is_field) := ⟨rfl, rfl, rfl, by decide +kernel, rfl, by decide +kernel, by decide +kernel⟩
-- slots: 0 thing, 1 word
theorem c_is_field (T : Tx K mg) : Cal P w K mg base 2 "is_field" spIsField := by
  refine ⟨_, _, ["thing"], fn_body T.f_is_field sc_is_field (fun vs H Q E h => by obtain ⟨_, _, _, rfl, _⟩ := h; rfl) (fun cdv A outer s H vs Q E hr h => ?_), T.g_is_field, T.f_is_field.kp, T.f_is_field.bindsN fun _ _ _ _ _ _ us hl => match us, hl with | [_], _ => rfl⟩
  obtain ⟨v, f, G, rfl, sG, hf, ok, k⟩ := h
  have hu := hu_of hr
  refine ⟨_,
    (pss_cons (ps_if (PW.pt (pw_or (pt_not (pt_val (pe_callB (call_isiK rfl) (by rfl) T.b_isinstance (by decide +kernel) (pa_cons (pv 0) (pa_cons (pe_bltn (v := .ty "tuple") (by rfl) T.b_tuple (by decide +kernel) rfl) pa_nil))))) (pw_or (pt_cmpR (op_eqNilTK rfl hr.units) (pv 0) (pe_tup pa_nil) (nomark _)) (pw_or1 (pt_not (pt_val (pe_callB (call_isiK rfl) (by rfl) T.b_isinstance (by decide +kernel) (pa_cons (pe_ix (ix_tupK rfl) (pv 0) pe_int (fun _ _ => rfl)) (pa_cons (pe_bltn (v := .ty "str") (by rfl) T.b_str (by decide +kernel) rfl) pa_nil)))))))))
      (pss_one (ps_ret pe_bl))
      pss_nil)
    (pss_cons (ps_if (pt_cmpR op_eq (pe_ix (ix_tupK rfl) (pv 0) pe_int (fun _ _ => rfl)) pe_str (nomark _))
      (pss_cons (ps_if (PW.pt (pw_or (pt_cmpR op_ne (pe_callB (call_len_seqK rfl) (by rfl) T.b_len (by decide +kernel) (pa_cons (pv 0) pa_nil)) pe_int (nomark _)) (pw_or (pt_not (pt_val (pe_callB (call_isiK rfl) (by rfl) T.b_isinstance (by decide +kernel) (pa_cons (pe_ix (ix_tupK rfl) (pv 0) pe_int (fun _ _ => rfl)) (pa_cons (pe_bltn (v := .ty "list") (by rfl) T.b_list (by decide +kernel) rfl) pa_nil))))) (pw_or1 (pt_not (pt_chain op_le op_le pe_int (pe_callB (call_len_seqK rfl) (by rfl) T.b_len (by decide +kernel) (pa_cons (pe_ix (ix_tupK rfl) (pv 0) pe_int (fun _ _ => rfl)) pa_nil)) pe_int))))))
        (pss_one (ps_ret pe_bl))
        pss_nil)
      (pss_one (ps_ret (pe_and (pe_callB (cr_allK rfl rfl) (by rfl) T.b_all (by decide +kernel) (pa_cons (pe_lc rfl sc_is_field.nd (pi_listK rfl (pe_ix (ix_tupK rfl) (pv 0) pe_int (fun _ _ => rfl))) (blkOk_by (own := [("word", 1)]) (N := N_is_field) (sc := defScope s_is_field) (by decide +kernel)) (fun _ _ _ _ _ => (pg_name (i := 1) sc_is_field.nd rfl (Or.inl rfl))) (fun _ _ _ _ _ => pts_nil) (fun _ _ _ _ _ => (pe_cal (c_is_name T) hr (by decide) rfl (pa_cons (pv 1) pa_nil)))) pa_nil)) (pe_one (pe_cmpR op_eq (pe_lenSetS rfl (by rfl) T.b_len (by rfl) T.b_set (pe_ix (ix_tupK rfl) (pv 0) pe_int (fun _ _ => rfl))) (pe_callB (call_len_seqK rfl) (by rfl) T.b_len (by decide +kernel) (pa_cons (pe_ix (ix_tupK rfl) (pv 0) pe_int (fun _ _ => rfl)) pa_nil)) (nomark _)))))))
      pss_nil)
    (pss_cons (ps_if (pt_cmpR op_eq (pe_ix (ix_tupK rfl) (pv 0) pe_int (fun _ _ => rfl)) pe_str (nomark _))
      (pss_one (ps_ret (pe_and (pe_cmpR op_eq (pe_callB (call_len_seqK rfl) (by rfl) T.b_len (by decide +kernel) (pa_cons (pv 0) pa_nil)) pe_int (nomark _)) (pe_one (pe_cal (c_is_name T) hr (by decide) rfl (pa_cons (pe_ix (ix_tupK rfl) (pv 0) pe_int (fun _ _ => rfl)) pa_nil))))))
      pss_nil)
    (pss_one (ps_ret (pe_and (pe_cmpR op_eq (pe_ix (ix_tupK rfl) (pv 0) pe_int (fun _ _ => rfl)) pe_str (nomark _)) (pe_one (pe_cmpR op_eq (pe_callB (call_len_seqK rfl) (by rfl) T.b_len (by decide +kernel) (pa_cons (pv 0) pa_nil)) pe_int (nomark _))))))))), ?_⟩
  obtain ⟨a, r, rfl, ha⟩ := hf.any
  have i0 : ∀ {σ : L2.St}, σ[0]? = some (some (.ref a)) → Gv (tOp (rIxT K) (tVar 0) (tC (.int 0))) σ G (.str f.sort) := fun h => gv_op (gv_var h) gv_c (rv_ixT ha (at0 _ _))
  refine q_no sG (gt_or (gt_not (gt_B (gv_isiY (gv_var rfl) (ty_tup ha)))) fun _ => gt_or (gt_test (gv_eqNilT (gv_var rfl) ha (gu_tup ga_nil (by decide)))) fun _ => gt_not (gt_B (gv_isiY (i0 rfl) ty_str))) fun H1 e1 => ?_
  replace sG := sG.same e1
  have eqs : ∀ {σ : L2.St} (w : Str), σ[0]? = some (some (.ref a)) → Gv (tOp rEq (tOp (rIxT K) (tVar 0) (tC (.int 0))) (tC (.str w))) σ G (.bl (decide (f.sort = w))) := fun w h => gv_eq (by simp) (gv_op (i0 h) gv_c (rv_eq rfl))
  cases f with
  | mark ws =>
    obtain ⟨a', l, e, h1, h2⟩ := hf
    cases e
    obtain ⟨o1, o2, o3, o4⟩ := ok
    have i1 : ∀ {σ : L2.St}, σ[0]? = some (some (.ref a)) → Gv (tOp (rIxT K) (tVar 0) (tC (.int 1))) σ G (.ref l) := fun h => gv_op (gv_var h) gv_c (rv_ixT h1 rfl)
    refine q_yes sG (gt_test (eqs "mark" rfl)) fun H2 e2 => ?_
    replace sG := sG.same e2
    refine q_no sG (gt_eq ?_ (gt_or (gt_test (gv_op (gv_lenT (n := 2) (gv_var rfl) h1 rfl) gv_c (rv_ne rfl))) fun _ => gt_or (gt_not (gt_B (gv_isiY (i1 rfl) (ty_lst h2)))) fun _ => gt_not (gt_test (gv_chain gv_c (gv_lenL (n := ws.length) (i1 rfl) h2 (by simp)) rv_I0 (fun _ => gv_c) fun _ => rv_I0)))) fun H3 e3 => ?_
    · simp; omega
    replace sG := sG.same e3
    refine s_ret sG (gv_eq ?_ (gv_andV (b := true) (gv_names (i1 rfl) h2 (by omega) (fun _ _ => rfl) fun d hd => gv_call (ga_cons (gv_var rfl) ga_nil) (sv_isName (o3 d hd)))
      fun _ => gv_op (gv_lenSet (i1 rfl) h2 o4 (by omega)) (gv_lenL (n := ws.length) (i1 rfl) h2 (by simp)) (rv_eq rfl))) fun H4 e4 => k H4 (((e1.trans e2).trans e3).trans e4)
    simp
  | link t =>
    obtain ⟨a', e, h1⟩ := hf
    cases e
    have i1 : ∀ {σ : L2.St}, σ[0]? = some (some (.ref a)) → Gv (tOp (rIxT K) (tVar 0) (tC (.int 1))) σ G (.str t) := fun h => gv_op (gv_var h) gv_c (rv_ixT h1 rfl)
    refine q_no sG (gt_test (eqs "mark" rfl)) fun H2 e2 => ?_
    replace sG := sG.same e2
    refine q_yes sG (gt_test (eqs "link" rfl)) fun H3 e3 => ?_
    replace sG := sG.same e3
    exact s_ret sG (gv_andV (b := true) (c := true) (gv_op (gv_lenT (n := 2) (gv_var rfl) h1 rfl) gv_c (rv_eq rfl)) fun _ => gv_call (ga_cons (i1 rfl) ga_nil) (sv_isName ok)) fun H4 e4 => k H4 (((e1.trans e2).trans e3).trans e4)
  | tag =>
    obtain ⟨a', e, h1⟩ := hf
    cases e
    refine q_no sG (gt_test (eqs "mark" rfl)) fun H2 e2 => ?_
    replace sG := sG.same e2
    refine q_no sG (gt_test (eqs "link" rfl)) fun H3 e3 => ?_
    replace sG := sG.same e3
    exact s_ret sG (gv_andV (b := true) (c := true) (eqs "tag" rfl) fun _ => gv_op (gv_lenT (n := 1) (gv_var rfl) h1 rfl) gv_c (rv_eq rfl)) fun H4 e4 => k H4 (((e1.trans e2).trans e3).trans e4)
end
end K25

/-! F4 -/
namespace K25
open PySem PySem.Spec PyProof.Rows L2
section
variable {K : PySem.W.Frag} {σ : L2.St} {G : Hp} {te tk tl t : TE} {tr : TA} {a : Addr} {α : Type} {R : RelD α} {kvs : List (Key × V)} {l : List (Str × α)} {vs : List Nat}
theorem map_true {γ : Type} (l : List γ) (f : γ → Bool) (h : ∀ x ∈ l, f x = true) : (l.map f).all id = true := by
  rw [List.all_eq_true]
  intro b hb
  obtain ⟨x, hx, rfl⟩ := List.mem_map.mp hb
  exact h x hx
/-- all of a list's turns give true -/
theorem gv_allY {δ : Type} {ds : List δ} {up : δ → L2.St → L2.St} {wi : TI} {g : TG} (hi : GI Fr0 wi g σ G ds up) (hz : ds.length ≤ 100000) (hw : ∀ d ∈ ds, wipe (up d (wipe σ vs)) vs = wipe σ vs)
    (he : ∀ d ∈ ds, Gv t (up d (wipe σ vs)) G (.bl true)) : Gv (tCB (rAll K) (tCons (tLc wi g tYes t vs) tNil)) σ G (.bl true) := by
  refine gv_eq ?_ (gv_all (bs := ds.map fun _ => true) ?_)
  · rw [map_true _ _ fun _ _ => rfl]
  · refine gn_eq ?_ (gl_lc (pf := fun _ => true) (fun _ => V.bl true) hi hz hw (fun _ _ => gt_yes) fun d hd _ => he d hd)
    rw [List.filter_eq_self.mpr (fun _ _ => rfl), List.map_map]
    rfl
/-- the same over a dict, locked -/
theorem gv_allYK {δ : Type} {ds : List δ} {up : δ → L2.St → L2.St} {wi : TI} {g : TG} (gd : G a = some (.dK kvs)) (hi : GI (Lk a kvs) wi g σ G ds up) (hz : ds.length ≤ 100000) (hw : ∀ d ∈ ds, wipe (up d (wipe σ vs)) vs = wipe σ vs)
    (he : ∀ d ∈ ds, Gv t (up d (wipe σ vs)) G (.bl true)) : Gv (tCB (rAll K) (tCons (tLk (tLc wi g tYes t vs)) tNil)) σ G (.bl true) := by
  refine gv_eq ?_ (gv_all (bs := ds.map fun _ => true) ?_)
  · rw [map_true _ _ fun _ _ => rfl]
  · refine gn_eq ?_ (gl_lcK gd (pf := fun _ => true) (fun _ => V.bl true) hi hz hw (fun _ _ => gt_yes) fun d hd _ => he d hd)
    rw [List.filter_eq_self.mpr (fun _ _ => rfl), List.map_map]
    rfl
/-- the pairs of a dict with what they stand for -/
theorem PrD.both (h : PrD R G kvs l) : kvs = (kvs.zip l).map (·.1) ∧ l = (kvs.zip l).map (·.2) ∧ ∀ q ∈ kvs.zip l, q.1 ∈ kvs ∧ q.2 ∈ l ∧ q.1.1 = Sum.inr q.2.1 ∧ R q.1.2 q.2.2 G := by
  obtain ⟨e1, e2, e3⟩ := All2.zip h
  refine ⟨e1, e2, fun q hq => ⟨?_, ?_, e3 q hq⟩⟩
  · rw [e1]; exact List.mem_map.mpr ⟨q, hq, rfl⟩
  · rw [e2]; exact List.mem_map.mpr ⟨q, hq, rfl⟩
theorem PrD.zipl (h : PrD R G kvs l) : (kvs.zip l).length = l.length := by
  rw [List.length_zip, h.length, Nat.min_self]
theorem GI.to {δ ε : Type} {Pre : Hp → Prop} {wi : TI} {g : TG} {ds : List δ} {up : δ → L2.St → L2.St} {up' : ε → L2.St → L2.St} {es : List ε} (h : GI Pre wi g σ G ds up) (f : δ → ε) (e : es = ds.map f) (hu : ∀ d ∈ ds, ∀ σ, up d σ = up' (f d) σ) : GI Pre wi g σ G es up' := fun H s c R r =>
  h H s c R fun J G' H' st wk => r J G' H' st ⟨fun H2 s2 e2 i x hx => by
    rw [e, List.getElem?_map] at hx
    cases q : ds[i]? with
    | none => rw [q] at hx; cases hx
    | some d =>
      rw [q] at hx
      have ex : f d = x := Option.some.inj hx
      obtain ⟨go, y⟩ := wk.go H2 s2 e2 i d q
      refine ⟨go, fun z H3 yl => ?_⟩
      obtain ⟨s1, s2⟩ := y z H3 yl
      refine ⟨s1, fun σ' Q q' => s2 σ' Q fun H4 e4 => ?_⟩
      rw [hu d (List.mem_of_getElem? q) σ', ex]
      exact q' H4 e4, fun H2 s2 e2 => by
    have z := wk.stop H2 s2 e2
    rw [e, List.length_map]
    exact z⟩
theorem gi_keysD {td : TE} {j : Nat} {Pre : Hp → Prop} [Lks Pre a kvs] (h : Gv td σ G (.ref a)) (hp : PrD R G kvs l) : GI Pre (iKeys td) (gName j) σ G l (upN j fun x => .str x.1) :=
  (gi_keys (ds := kvs.zip l) (kf := fun q => q.1) h hp.both.1).to (fun q => q.2) hp.both.2.1 fun d hd σ => by
    have e := (hp.both.2.2 d hd).2.2.1
    unfold upN
    dsimp only
    rw [e]
    rfl
theorem gi_valsD {td : TE} {j : Nat} {Pre : Hp → Prop} [Lks Pre a kvs] (h : Gv td σ G (.ref a)) (hp : PrD R G kvs l) : GI Pre (iVals td) (gName j) σ G (kvs.zip l) (upN j fun q => q.1.2) := gi_vals (ds := kvs.zip l) (kf := fun q => q.1) h hp.both.1
theorem gi_itemsD {td : TE} {i j : Nat} {Pre : Hp → Prop} [Lks Pre a kvs] (h : Gv td σ G (.ref a)) (hp : PrD R G kvs l) : GI Pre (iItems td) (gTup K 2 (gCons (gName i) (gCons (gName j) gNil))) σ G (kvs.zip l) (upN2 i j (fun q => .str q.2.1) fun q => q.1.2) :=
  (gi_items (ds := kvs.zip l) (kf := fun q => q.1) h hp.both.1).to (fun q => q) (List.map_id _).symm fun d hd σ => by
    have e := (hp.both.2.2 d hd).2.2.1
    unfold upN2
    dsimp only
    rw [e]
    rfl
/-- xs.count(k) -/
theorem gv_count {xs : List Str} {k : Str} {n : Nat} (h : Gv tl σ G (.ref a)) (ha : G a = some (sL xs)) (hk : Gv tk σ G (.str k)) (e : (xs.filter fun y => decide (y = k)).length = n) : Gv (tBM K "list" (rCountS K) tl (tCons tk tNil)) σ G (.int (n : Nat)) := fun H s Q q =>
  h H s _ fun H1 e1 => ⟨.inl ⟨rfl, _, SqL.of ((s.same e1).lst ha)⟩, ga_cons hk ga_nil H1 (s.same e1) _ fun H2 e2 => ⟨a, xs, k, rfl, rfl, SqL.of (((s.same e1).same e2).lst ha), by rw [e]; exact q H2 (e1.trans e2)⟩⟩
theorem rc_max {ns : List Int} {m : Int} (ha : G a = some (.lst (ns.map V.int))) (h0 : 0 < ns.length) (h : ∀ x, x ∈ ns → (∀ y, y ∈ ns → y ≤ x) → x = m) : Rc (rMax K) [.ref a] G (.int m) := fun H s Q q =>
  ⟨a, ns, rfl, SqL.of (s.lst ha), h0, fun x h1 h2 => by rw [h x h1 h2]; exact q H (Same.refl H)⟩
end
section
variable {P : Program} {w : World} {K : PySem.W.Frag} {mg : Str → Option Value} {base : Heap}
def spFieldsOf : Sp := fun vs H Q _ => ∃ a fs G, vs = [.ref a] ∧ Sub G H ∧ FsAt G a fs ∧ FsOk fs ∧ ∀ H', Same H H' → Q (.bl true) H'
theorem sv_fieldsOf {G : Hp} {a : Addr} {fs : Flds} (h : FsAt G a fs) (ok : FsOk fs) : Sv spFieldsOf [.ref a] G (.bl true) := fun H s Q E q => ⟨a, fs, G, rfl, s, h, ok, q⟩
abbrev N_fields_of : List Str := ["thing", "name", "field", "sorts", "word"]
theorem sc_fields_of : FnScope N_fields_of ["thing"] (defScope s_fields_of) := ⟨rfl, rfl, rfl, by decide +kernel, rfl, by decide +kernel, by decide +kernel⟩
-- slots: 0 thing, 1 name, 2 field, 3 sorts*, 4 word
theorem c_fields_of (T : Tx K mg) : Cal P w K mg base 3 "fields_of" spFieldsOf := by
  refine ⟨_, _, ["thing"], fn_body T.f_fields_of sc_fields_of (fun vs H Q E h => by obtain ⟨_, _, _, rfl, _⟩ := h; rfl) (fun cdv A outer s H vs Q E hr h => ?_), T.g_fields_of, T.f_fields_of.kp, T.f_fields_of.bindsN fun _ _ _ _ _ _ us hl => match us, hl with | [_], _ => rfl⟩
  obtain ⟨a, fs, G, rfl, sG, hf, ok, k⟩ := h
  have hu := hu_of hr
  refine ⟨_,
    (pss_cons (ps_if (PW.pt (pw_or (pt_not (pt_val (pe_callB (call_isiK rfl) (by rfl) T.b_isinstance (by decide +kernel) (pa_cons (pv 0) (pa_cons (pe_bltn (v := .ty "dict") (by rfl) T.b_dict (by decide +kernel) rfl) pa_nil))))) (pw_or1 (pt_not (pt_val (pe_callB (cr_allK rfl rfl) (by rfl) T.b_all (by decide +kernel) (pa_cons (pe_lk (pe_lc rfl sc_fields_of.nd (pi_keys (pv 0)) (blkOk_by (own := [("name", 1)]) (N := N_fields_of) (sc := defScope s_fields_of) (by decide +kernel)) (fun _ _ _ _ _ => (pg_name (i := 1) sc_fields_of.nd rfl (Or.inl rfl))) (fun _ _ _ _ _ => pts_nil) (fun _ _ _ _ _ => (pe_cal (c_is_name T) hr (by decide) rfl (pa_cons (pv 1) pa_nil))))) pa_nil)))))))
      (pss_one (ps_ret pe_bl))
      pss_nil)
    (pss_cons (ps_if (pt_not (pt_val (pe_callB (cr_allK rfl rfl) (by rfl) T.b_all (by decide +kernel) (pa_cons (pe_lk (pe_lc rfl sc_fields_of.nd (pi_values (pv 0)) (blkOk_by (own := [("field", 2)]) (N := N_fields_of) (sc := defScope s_fields_of) (by decide +kernel)) (fun _ _ _ _ _ => (pg_name (i := 2) sc_fields_of.nd rfl (Or.inl rfl))) (fun _ _ _ _ _ => pts_nil) (fun _ _ _ _ _ => (pe_cal (c_is_field T) hr (by decide) rfl (pa_cons (pv 2) pa_nil))))) pa_nil))))
      (pss_one (ps_ret pe_bl))
      pss_nil)
    (pss_cons (ps_set (i := 3) sc_fields_of.nd rfl (Or.inr rfl) (pe_lk (pe_lc rfl sc_fields_of.nd (pi_values (pv 0)) (blkOk_by (own := [("field", 2)]) (N := N_fields_of) (sc := defScope s_fields_of) (by decide +kernel)) (fun _ _ _ _ _ => (pg_name (i := 2) sc_fields_of.nd rfl (Or.inl rfl))) (fun _ _ _ _ _ => pts_nil) (fun _ _ _ _ _ => (pe_ix (ix_tupK rfl) (pv 2) pe_int (fun _ _ => rfl))))))
    (pss_one (ps_ret (pe_cmpR op_le (pe_callB (cr_maxK rfl rfl) (by rfl) T.b_max (by decide +kernel) (pa_cons (pe_lc rfl sc_fields_of.nd (pi_tupK rfl (pe_tup (pa_cons pe_str (pa_cons pe_str (pa_cons pe_str pa_nil))))) (blkOk_by (own := [("word", 4)]) (N := N_fields_of) (sc := defScope s_fields_of) (by decide +kernel)) (fun _ _ _ _ _ => (pg_name (i := 4) sc_fields_of.nd rfl (Or.inl rfl))) (fun _ _ _ _ _ => pts_nil) (fun _ _ _ _ _ => (pe_bmK rfl PySem.F.plainAttrs_list PySem.F.slot_list_count PySem.F.type_list_count (mt_countSK rfl) (pv 3) (pa_cons (pv 4) pa_nil)))) pa_nil)) pe_int (nomark _))))))), ?_⟩
  obtain ⟨kvs, ha, hp⟩ := hf
  obtain ⟨z1, z2, z3⟩ := hp.both
  have zl : (kvs.zip fs).length ≤ 6 := by rw [hp.zipl]; exact ok.len
  refine q_no sG (gt_eq ?_ (gt_or (gt_not (gt_B (gv_isiY (gv_var rfl) (ty_dK ha)))) fun _ => gt_not (gt_B (gv_allYK ha (gi_keysD (gv_var rfl) hp) (by have := ok.len; omega) (fun _ _ => rfl) fun d hd => gv_call (ga_cons (gv_var rfl) ga_nil) (sv_isName (ok.nm _ hd)))))) fun H1 e1 => ?_
  · rfl
  replace sG := sG.same e1
  refine q_no sG (gt_not (gt_B (gv_allYK ha (gi_valsD (gv_var rfl) hp) (by omega) (fun _ _ => rfl) fun d hd => gv_call (ga_cons (gv_var rfl) ga_nil) (sv_isField (z3 d hd).2.2.2 (ok.ok _ (z3 d hd).2.1))))) fun H2 e2 => ?_
  replace sG := sG.same e2
  refine q_setN sG (mk := sL (fs.map fun f => f.2.sort)) (gn_eq ?_ (gl_lcK ha (pf := fun _ => true) (fun d => V.str d.2.2.sort) (gi_valsD (gv_var rfl) hp) (by omega) (fun _ _ => rfl) (fun _ _ => gt_yes) fun d hd _ => ?_)) fun p H3 e3 h2p h3p => ?_
  · rw [List.filter_eq_self.mpr (fun _ _ => rfl)]
    unfold sL
    conv => rhs; rw [z2]
    rw [List.map_map, List.map_map]
    rfl
  · obtain ⟨b, r, e1, e2⟩ := (z3 d hd).2.2.2.any
    exact gv_op (gv_eq e1 (gv_var rfl)) gv_c (rv_ixT e2 (at0 _ _))
  have sG3 := (sG.same e3).put h3p
  have cc : ∀ s : Str, ((fs.map fun f => f.2.sort).filter fun y => decide (y = s)).length = cnt s fs := fun s => by
    unfold cnt
    rw [List.filter_map, List.length_map]
    rfl
  have g0 : ∀ d : Str, Gv (tBM K "list" (rCountS K) (tVar 3) (tCons (tVar 4) tNil)) (upN 4 V.str d [some (.ref a), none, none, some (.ref p), none]) (upd G p (sL (fs.map fun f => f.2.sort))) (.int (cnt d fs : Nat)) := fun d => gv_count (gv_var rfl) upd_same (gv_var rfl) (cc d)
  refine s_ret sG3 (gv_eq ?_ (gv_op (z := .bl true) (x := .int (max (cnt "mark" fs : Nat) (max (cnt "link" fs : Nat) (cnt "tag" fs : Nat)) : Int)) (gv_cbN (gl_lc (pf := fun _ => true) (ds := [("mark" : Str), "link", "tag"]) (fun d => V.int (cnt d fs : Nat)) (gi_tupN (emb := V.str) (gu_tup (ga_cons gv_c (ga_cons gv_c (ga_cons gv_c ga_nil))) (by decide))) (by decide) (fun _ _ => rfl) (fun _ _ => gt_yes) fun d _ _ => g0 d) fun q hq => rc_max (ns := [(cnt "mark" fs : Int), cnt "link" fs, cnt "tag" fs]) upd_same (by simp) ?_) gv_c ?_)) fun H4 e4 => k H4 (((e1.trans e2).trans e3).trans e4)
  · rfl
  · intro x hx hy
    have h1 := hy (cnt "mark" fs) (by simp)
    have h2 := hy (cnt "link" fs) (by simp)
    have h3 := hy (cnt "tag" fs) (by simp)
    simp at hx
    omega
  · have := ok.c1; have := ok.c2; have := ok.c3
    exact fun H _ Q q => ⟨_, _, rfl, rfl, by dsimp only; rw [decide_eq_true (by omega)]; exact q H (Same.refl H)⟩
/-- the sort of a field -/
def spSortOf : Sp := fun vs H Q _ => ∃ a f fs g G, vs = [.ref a, .str f] ∧ Sub G H ∧ FsAt G a fs ∧ valD fs f = some g ∧ Nm f ∧ ∀ H', Same H H' → Q (.str g.sort) H'
theorem sv_sortOf {G : Hp} {a : Addr} {fs : Flds} {f : Str} {g : Fld} (h : FsAt G a fs) (e : valD fs f = some g) (n : Nm f) : Sv spSortOf [.ref a, .str f] G (.str g.sort) := fun H s Q E q => ⟨a, f, fs, g, G, rfl, s, h, e, n, q⟩
abbrev N_sort_of : List Str := ["fields", "name"]
theorem sc_sort_of : FnScope N_sort_of ["fields", "name"] (defScope s_sort_of) := ⟨rfl, rfl, rfl, by decide +kernel, rfl, by decide +kernel, by decide +kernel⟩
-- slots: 0 fields, 1 name
theorem c_sort_of (T : Tx K mg) : Cal P w K mg base 2 "sort_of" spSortOf := by
  refine ⟨_, _, ["fields", "name"], fn_body T.f_sort_of sc_sort_of (fun vs H Q E h => by obtain ⟨_, _, _, _, _, rfl, _⟩ := h; rfl) (fun cdv A outer s H vs Q E hr h => ?_), T.g_sort_of, T.f_sort_of.kp, T.f_sort_of.bindsN fun _ _ _ _ _ _ us hl => match us, hl with | [_, _], _ => rfl⟩
  obtain ⟨a, f, fs, g, G, rfl, sG, hf, e, n, k⟩ := h
  have hu := hu_of hr
  refine ⟨_,
    (pss_one (ps_ret (pe_ifExp (PW.pt (pw_and (pt_val (pe_cal (c_is_name T) hr (by decide) rfl (pa_cons (pv 1) pa_nil))) (pw_and1 (pt_cmp (pc_din hu (pv 1) (pv 0)))))) (pe_ix (ix_tupK rfl) (pe_dget hu (pv 0) (pv 1) (fun _ _ => rfl)) pe_int (fun _ _ => rfl)) pe_non))), ?_⟩
  obtain ⟨kvs, v, ha, hv, hg⟩ := hf.get e
  obtain ⟨b, r, rfl, hb⟩ := hg.any
  exact s_ret sG (gv_if (b := true) (gt_and (b := true) (c := true) (gt_test (gv_call (ga_cons (gv_var rfl) ga_nil) (sv_isName n))) fun _ => gt_test (gv_eq (by rw [hv]; rfl) (gv_din (k := Sum.inr f) (gv_var rfl) (gv_var rfl) ha)))
    (fun _ => gv_op (gv_dget (gv_var rfl) (gv_var (v := .str f) rfl) ha hv) gv_c (rv_ixT hb (at0 _ _))) fun z => nomatch z) k
end
end K25

/-! K7 -/
/-! K7: expressions that grow the known part. -/
namespace K25
open PySem PySem.Spec PyProof.Rows L2
theorem Stp.pre {G H H1 G' H' : Hp} (e : Same H H1) (st : Stp G H1 G' H') : Stp G H G' H' := ⟨st.ex, st.sub, e.trans st.keep, fun a h1 h2 => st.new a h1 (by
  cases q : H a with
  | none => exact absurd q h2
  | some o => rw [e a o q]; simp)⟩
theorem few {α : Type} {xs : List α} {n : Nat} (h : xs.length = n) (hn : n ≤ 1000 := by first | decide | simp) : xs.length ≤ sizeLine := by rw [h, sizeLine_eq]; omega
/-- arguments, the known part growing -/
def Gxa (ta : TA) (σ : L2.St) (G : Hp) (Φ : List V → Hp → Prop) : Prop := ∀ H, Sub G H → ∀ Q : List V → Hp → Prop, (∀ vs G' H', Stp G H G' H' → Φ vs G' → Q vs H') → ta σ H Q
/-- a promise that gives a value, the known part growing -/
def Sx (sp : Sp) (vs : List V) (G : Hp) (Φ : V → Hp → Prop) : Prop := ∀ H, Sub G H → ∀ (Q : VK) (E : XK), (∀ v G' H', Stp G H G' H' → Φ v G' → Q v H') → sp vs H Q E
section
variable {K : PySem.W.Frag} {σ : L2.St} {G : Hp} {ta tb te : TE} {t : TT} {tr : TA} {v : V} {vs xs : List V} {b : Bool} {a p C dx : Addr} {Φ Ψ : V → Hp → Prop} {Pre : Hp → Prop}
theorem gxa_nil {Φ : List V → Hp → Prop} (h : Φ [] G) : Gxa tNil σ G Φ := fun H s Q q => q [] G H (Stp.refl s) h
theorem gxa_cons {Φ : List V → Hp → Prop} (h : Ge te σ G Ψ) (hr : ∀ v G', Same G G' → Ψ v G' → Gxa tr σ G' fun vs G'' => Φ (v :: vs) G'') : Gxa (tCons te tr) σ G Φ := fun H s Q q =>
  h H s trivial _ fun v G1 H1 s1 f1 => hr v G1 s1.ex f1 H1 s1.sub _ fun vs G2 H2 s2 f2 => q (v :: vs) G2 H2 (s1.trans s2) f2
theorem gxa_consV {Φ : List V → Hp → Prop} (h : Gv te σ G v) (hr : Gxa tr σ G fun vs G'' => Φ (v :: vs) G'') : Gxa (tCons te tr) σ G Φ := fun H s Q q =>
  h H s _ fun H1 e1 => hr H1 (s.same e1) _ fun vs G2 H2 s2 f2 => q (v :: vs) G2 H2 (((Stp.refl s).grow e1).trans s2) f2
theorem gxa_imp {Φ Ψ : List V → Hp → Prop} (h : Gxa tr σ G Φ) (i : ∀ vs G', Same G G' → Φ vs G' → Ψ vs G') : Gxa tr σ G Ψ := fun H s Q q => h H s Q fun vs G' H' st f => q vs G' H' st (i vs G' st.ex f)
theorem ge_gv (h : Gv te σ G v) (f : Φ v G) : Ge te σ G Φ := fun H s _ Q q => h H s Q fun H' e => q v G H' ((Stp.refl s).grow e) f
theorem ge_gn {mk : HO} (h : Gn mk te σ G) (f : ∀ p, G p = none → Φ (.ref p) (upd G p mk)) : Ge te σ G Φ := fun H s _ Q q =>
  h H s Q fun p H' e hp h' => q (.ref p) (upd G p mk) H' (((Stp.refl s).grow e).tell (s.non hp) hp h') (f p (s.non hp))
theorem ge_gm {Ψ : HO → Hp → Prop} (h : Gm Fr0 te σ G Ψ) (f : ∀ p o G', Same G G' → G' p = none → Ψ o G' → Φ (.ref p) (upd G' p o)) : Ge te σ G Φ := fun H s c Q q =>
  h H s c Q fun p o G' H' st hp gp h' fo => q _ (upd G' p o) H' (st.tell gp hp h') (f p o G' st.ex gp fo)
theorem ge_tup (h : Gxa tr σ G fun vs G' => vs.length ≤ sizeLine ∧ ∀ p, G' p = none → Φ (.ref p) (upd G' p (.tup vs))) : Ge (tTup tr) σ G Φ := fun H s _ Q q =>
  h H s _ fun vs G1 H1 s1 f1 => ⟨f1.1, fun p hp => q _ (upd G1 p (.tup vs)) _ (s1.lay hp) (f1.2 p (s1.sub.non hp))⟩
theorem ge_lst (h : Gxa tr σ G fun vs G' => vs.length ≤ sizeLine ∧ ∀ p, G' p = none → Φ (.ref p) (upd G' p (.lst vs))) : Ge (tLst tr) σ G Φ := fun H s _ Q q =>
  h H s _ fun vs G1 H1 s1 f1 => ⟨f1.1, fun p hp => q _ (upd G1 p (.lst vs)) _ (s1.lay hp) (f1.2 p (s1.sub.non hp))⟩
theorem ge_if (h : Gt t σ G b) (h1 : b = true → Ge ta σ G Φ) (h2 : b = false → Ge tb σ G Φ) : Ge (tIf t ta tb) σ G Φ := fun H s c Q q => h H s _ fun H1 e1 => by
  cases b with
  | true => exact h1 rfl H1 (s.same e1) c Q fun v G' H' st f => q v G' H' (((Stp.refl s).grow e1).trans st) f
  | false => exact h2 rfl H1 (s.same e1) c Q fun v G' H' st f => q v G' H' (((Stp.refl s).grow e1).trans st) f
theorem ge_call {sp : Sp} {dvs : List V} {E : XK} (h : Ga tr σ G vs) (hs : Sx sp (vs ++ dvs) G Φ) : Gx Pre (tCall sp dvs E tr) σ G Φ := fun H s _ Q q =>
  h H s _ fun H1 e1 => hs H1 (s.same e1) Q E fun v G' H' st f => q v G' H' (((Stp.refl s).grow e1).trans st) f
theorem ge_callX {sp : Sp} {dvs : List V} {E : XK} (h : Gxa tr σ G fun vs G' => Sx sp (vs ++ dvs) G' Φ) : Ge (tCall sp dvs E tr) σ G Φ := fun H s _ Q q =>
  h H s _ fun vs G1 H1 s1 hs => hs H1 s1.sub Q E fun v G' H' st f => q v G' H' (s1.trans st) f
theorem ge_meth {m : Str} {sp : Sp} {dvs : List V} {E : XK} {fs : List (Str × V)} (h : Gv te σ G (.ref a)) (ha : G a = some (.ins C dx fs)) (l : fs.lookup m = none) (hv : Ga tr σ G vs) (hs : Sx sp (.ref a :: (vs ++ dvs)) G Φ) : Gx Pre (tMeth C m sp dvs E te tr) σ G Φ := fun H s _ Q q =>
  h H s _ fun H1 e1 => ⟨a, dx, fs, rfl, (s.same e1).ins ha, l, hv H1 (s.same e1) _ fun H2 e2 => hs H2 ((s.same e1).same e2) Q E fun v G' H' st f => q v G' H' (((Stp.refl s).grow (e1.trans e2)).trans st) f⟩
theorem Sv.sx {sp : Sp} (h : Sv sp vs G v) (f : Φ v G) : Sx sp vs G Φ := fun H s Q E q => h H s Q E fun H' e => q v G H' ((Stp.refl s).grow e) f
theorem Gx.less {Pre : Hp → Prop} {G' : Hp} (e : Same G G') (h : Gx Pre te σ G Φ) (m : ∀ v A B, Same A B → Φ v A → Φ v B) (s0 : ∀ H, Sub G' H → ∀ G1 H1, Stp G H G1 H1 → ∃ G2, Stp G' H G2 H1 ∧ Same G1 G2) : Gx Pre te σ G' Φ := fun H s c Q q =>
  h H (s.less e) c Q fun v G1 H1 st f => let ⟨G2, st2, e2⟩ := s0 H s G1 H1 st; q v G2 H1 st2 (m v _ _ e2 f)
/-- list(xs), a copy -/
theorem gl_copy (h : Gv te σ G (.ref a)) (ha : G a = some (.lst xs)) : Gls (tCB (fun xs H Q => ∃ p ys, xs = [.ref p] ∧ (SqL K H p ys ∨ SqT K H p ys) ∧ ∀ l, H l = none → Q (.ref l) (upd H l (.lst ys))) (tCons te tNil)) σ G xs := fun H s Q q =>
  h H s _ fun H1 e1 => ⟨a, xs, rfl, .inl (SqL.of ((s.same e1).lst ha)), fun p hp => q p _ (e1.trans (Same.put hp)) (e1.free hp) upd_same⟩
theorem call_list_ofK {X : Cx} {K : PySem.W.Frag} (hK : X.K = K) : CallR X (.type "list") (fun xs H Q => ∃ p ys, xs = [.ref p] ∧ (SqL K H p ys ∨ SqT K H p ys) ∧ ∀ l, H l = none → Q (.ref l) (upd H l (.lst ys))) := by subst hK; exact call_list_of
/-! ### in -/
theorem inV_str (s : Str) (ws : List Str) : inV (.str s) (ws.map V.str) = decide (s ∈ ws) := by
  unfold inV
  induction ws with
  | nil => rfl
  | cons w ws ih =>
    rw [List.map_cons, List.any_cons, ih, eqV_str]
    by_cases e : w = s
    · subst e; simp
    · simp [e, show ¬ s = w from fun z => e z.symm]
theorem inV_non (ws : List Str) : inV .non (ws.map V.str) = false := by
  unfold inV
  induction ws with
  | nil => rfl
  | cons w ws ih => rw [List.map_cons, List.any_cons, ih]; rfl
theorem flat_strs (ws : List Str) : (ws.map V.str).all flatV = true := by
  rw [List.all_eq_true]
  intro x hx
  obtain ⟨s, _, rfl⟩ := List.mem_map.mp hx
  rfl
theorem rv_inS {s : Str} {ws : List Str} {neg : Bool} (h : G p = some (sL ws)) : Rv (rIn K neg) (.str s) (.ref p) G (.bl (if neg then !decide (s ∈ ws) else decide (s ∈ ws))) := by
  have := rv_inL (K := K) (neg := neg) (x := V.str s) h rfl (flat_strs ws)
  rw [inV_str] at this
  exact this
theorem rv_inSo {x : Option Str} {ws : List Str} {neg : Bool} (h : G p = some (sL ws)) : Rv (rIn K neg) (ov x) (.ref p) G (.bl (if neg then !(match x with | some s => decide (s ∈ ws) | none => false) else (match x with | some s => decide (s ∈ ws) | none => false))) := by
  cases x with
  | none =>
    have := rv_inL (K := K) (neg := neg) (x := V.non) h rfl (flat_strs ws)
    rw [inV_non] at this
    exact this
  | some s => exact rv_inS h
end
/-! ### tests of rows -/
def evT (r : Row) : Tst → Bool
  | .is f ws => match (valD r f).join with
    | some s => decide (s ∈ ws)
    | none => false
  | .non f => decide ((valD r f).join = none)
  | .not t => !evT r t
def evTs (r : Row) (ts : List Tst) : Bool := ts.all (evT r)
def TstIn (r : Row) : Tst → Prop
  | .is f _ => f ∈ r.map (·.1)
  | .non f => f ∈ r.map (·.1)
  | .not t => TstIn r t
end K25

/-! K8 -/
/-! K8: several locks; comprehensions of two clauses. -/
namespace K25
open PySem PySem.Spec PyProof.Rows L2
def tLkN : Nat → TE → TE
  | 0, t => t
  | n + 1, t => tLk (tLkN n t)
theorem pe_lkN {X : Cx} {e : Expr} {t : TE} (h : PE X e t) : ∀ n, PE X e (tLkN n t)
  | 0 => h
  | n + 1 => pe_lk (pe_lkN h n)
theorem pe_lks {X : Cx} {e : Expr} {t : TE} (h : PE X e t) : PE X e (tLkN 4 t) := pe_lkN h 4
/-- a condition that locking keeps -/
def Stl (Pre : Hp → Prop) : Prop := ∀ H d ob kvs, H d = some (.dK kvs) → Pre H → Pre (upd H d (.frz ob (.dK kvs)))
theorem stl_0 : Stl Fr0 := fun _ _ _ _ _ _ => trivial
theorem stl_lk {Pre : Hp → Prop} (h : Stl Pre) (p : Addr × List (Key × V)) : Stl fun H => Pre H ∧ Lk p.1 p.2 H := fun H d ob kvs hd ⟨h1, ob2, h2⟩ => ⟨h H d ob kvs hd h1, ob2, by
  have ne : p.1 ≠ d := fun z => by rw [z, hd] at h2; cases h2
  rw [upd_ne ne]
  exact h2⟩
section
variable {K : PySem.W.Frag} {σ : L2.St} {G : Hp} {t : TE} {Φ : HO → Hp → Prop}
theorem gm_lkP {Pre : Hp → Prop} (hS : Stl Pre) {d : Addr} {kvs : List (Key × V)} (g : G d = some (.dK kvs)) (h : Gm (fun H => Pre H ∧ Lk d kvs H) t σ G Φ) : Gm Pre (tLk t) σ G Φ := fun H s c Q q => by
  rcases s.rd g with hd | ⟨ob, hd⟩
  · refine .inr ⟨d, .dK kvs, hd, trivial, fun od => h _ (sub_lock s g) ⟨hS H d od kvs hd c, od, upd_same⟩ _ fun p o G' H' st hp gp h' fv => ⟨st.keep d _ upd_same, ?_⟩⟩
    have ne : p ≠ d := fun z => by rw [z, upd_same] at hp; cases hp
    exact q p o G' _ (stp_unlock g hd st) (by rw [upd_ne ne] at hp; exact hp) gp (by rw [upd_ne ne]; exact h') fv
  · exact .inl (h H s ⟨c, ob, hd⟩ Q q)
theorem gm_lkN : ∀ (n : Nat) (L : List (Addr × List (Key × V))) {Pre : Hp → Prop}, Stl Pre → L.length ≤ n → (∀ p ∈ L, G p.1 = some (.dK p.2)) → Gm (fun H => Pre H ∧ ∀ p ∈ L, Lk p.1 p.2 H) t σ G Φ → Gm Pre (tLkN n t) σ G Φ
  | 0, [], Pre, hS, _, _, h => fun H s c Q q => h H s ⟨c, fun p hp => by cases hp⟩ Q q
  | n + 1, [], Pre, hS, _, hG, h => fun H s c Q q => .inl (gm_lkN n [] hS (Nat.zero_le _) hG h H s c Q q)
  | n + 1, p :: L, Pre, hS, hn, hG, h => by
    refine gm_lkP hS (hG p List.mem_cons_self) (gm_lkN n L (stl_lk hS p) (by simp at hn; omega) (fun q hq => hG q (List.mem_cons_of_mem _ hq)) fun H s c Q q => h H s ⟨c.1.1, fun x hx => ?_⟩ Q q)
    rcases List.mem_cons.mp hx with rfl | hx
    · exact c.1.2
    · exact c.2 x hx
theorem gm_lks (L : List (Addr × List (Key × V))) (hn : L.length ≤ 4) (hG : ∀ p ∈ L, G p.1 = some (.dK p.2)) (h : Gm (fun H => ∀ p ∈ L, Lk p.1 p.2 H) t σ G Φ) : Gm Fr0 (tLkN 4 t) σ G Φ :=
  gm_lkN 4 L stl_0 hn hG fun H s c Q q => h H s c.2 Q q
end
/-! ### two clauses -/
section
variable {δ ε : Type} {σ : L2.St} {G : Hp} {ds : List δ} {es : δ → List ε} {up : δ → L2.St → L2.St} {up1 : δ → ε → L2.St → L2.St} {wi wi1 : TI} {g g1 : TG} {tt1 : TT} {te : TE} {vs vs1 : List Nat} {Pre : Hp → Prop} {pf : δ → ε → Bool}
def fl2 (es : δ → List ε) (pf : δ → ε → Bool) (f : δ → ε → V) (d : δ) : List V := ((es d).filter (pf d)).map (f d)
theorem gm_lc2V (f : δ → ε → V) (hi : GI Pre wi g σ G ds up) (hi1 : ∀ d ∈ ds, GI Pre wi1 g1 (up d (wipe σ vs)) G (es d) (up1 d)) (hz : (ds.flatMap (fl2 es pf f)).length ≤ 100000)
    (hw : ∀ d ∈ ds, wipe (up d (wipe σ vs)) vs = wipe σ vs) (hw1 : ∀ d ∈ ds, ∀ e ∈ es d, wipe (up1 d e (wipe (up d (wipe σ vs)) vs1)) vs1 = wipe (up d (wipe σ vs)) vs1)
    (ht : ∀ d ∈ ds, ∀ e ∈ es d, Gt tt1 (up1 d e (wipe (up d (wipe σ vs)) vs1)) G (pf d e)) (he : ∀ d ∈ ds, ∀ e ∈ es d, pf d e = true → Gv te (up1 d e (wipe (up d (wipe σ vs)) vs1)) G (f d e))
    (hP : ∀ H H', Same H H' → Pre H → Pre H') (hP2 : ∀ H p xs ys, H p = some (.lst xs) → Pre H → Pre (upd H p (.lst ys))) :
    Gm Pre (tLc2 wi g tYes wi1 g1 tt1 te vs vs1) σ G fun o G' => o = .lst (ds.flatMap (fl2 es pf f)) := fun H s c Q q =>
  hi H s c _ fun J G1 H1 st1 wk D hD => by
    have lenOk : ∀ {xs ys : List V} {z : V}, xs ++ z :: ys = ds.flatMap (fl2 es pf f) → xs.length < sizeLine := fun {xs ys z} h => by
      have : xs.length + (ys.length + 1) ≤ 100000 := by
        have h2 := congrArg List.length h
        rw [List.length_append, List.length_cons] at h2
        omega
      rw [sizeLine_eq]; omega
    refine ⟨fun i m H2 => m = ds.length - i ∧ i ≤ ds.length ∧ ∃ G2, Stp G1 H1 G2 H2 ∧ G2 D = none ∧ H2 D = some (.lst ((ds.take i).flatMap (fl2 es pf f))),
      ⟨ds.length, by simp, Nat.zero_le _, G1, (Stp.refl st1.sub).hide hD, st1.sub.non hD, upd_same⟩, ?_⟩
    rintro i m H2 ⟨rfl, hil, G2, st, gD, hD2⟩
    by_cases hlt : i < ds.length
    · have hd : ds[i]? = some ds[i] := List.getElem?_eq_getElem hlt
      have hsplit : (ds.take i).flatMap (fl2 es pf f) ++ (fl2 es pf f ds[i] ++ (ds.drop (i + 1)).flatMap (fl2 es pf f)) = ds.flatMap (fl2 es pf f) := by
        conv => rhs; rw [← List.take_append_drop i ds, List.drop_eq_getElem_cons hlt]
        rw [List.flatMap_append, List.flatMap_cons]
      generalize ds[i] = d at hd hsplit
      have dm : d ∈ ds := List.mem_of_getElem? hd
      obtain ⟨go, turn⟩ := wk.go H2 (st.sub.less st.ex) (Same.frz st.keep) i d hd
      refine .inr ⟨go, fun H' => ∃ m', m' < ds.length - i ∧ (m' = ds.length - (i + 1) ∧ i + 1 ≤ ds.length ∧ ∃ G2, Stp G1 H1 G2 H' ∧ G2 D = none ∧ H' D = some (.lst ((ds.take (i + 1)).flatMap (fl2 es pf f)))), fun H' z => z, fun x H3 y => ?_⟩
      obtain ⟨e3, asg⟩ := turn x H3 y
      refine asg (wipe σ vs) _ fun H4 e4 => ⟨hw d dm, ?_⟩
      unfold tYes
      simp only [if_true]
      have st4 : Stp G1 H1 G2 H4 := st.grow (e3.trans e4)
      have hD4 := e4 D _ (e3 D _ hD2)
      have c4 : Pre H4 := hP _ _ (st1.keep.trans st4.keep) c
      refine hi1 d dm H4 (st4.sub.less (st1.ex.trans st4.ex)) c4 _ fun J1 G5 H5 st5 wk1 => ?_
      have gD0 : G D = none := by
        cases z : G D with
        | none => rfl
        | some u => rw [(st1.ex.trans st4.ex) D u z] at gD; cases gD
      have gD5 := st5.new D gD0 (by rw [hD4]; simp)
      have hD5 := st5.keep D _ hD4
      have pre : (ds.take i).flatMap (fl2 es pf f) ++ fl2 es pf f d = (ds.take (i + 1)).flatMap (fl2 es pf f) := by
        rw [take_snoc hd, List.flatMap_append]
        simp
      refine ⟨fun j k H6 => k = (es d).length - j ∧ j ≤ (es d).length ∧ Stp G1 H1 G2 H6 ∧ Sub G5 H6 ∧ Frz H5 H6 ∧ Pre H6 ∧ H6 D = some (.lst ((ds.take i).flatMap (fl2 es pf f) ++ (((es d).take j).filter (pf d)).map (f d))),
        ⟨(es d).length, by simp, Nat.zero_le _, st4.grow st5.keep, st5.sub, Frz.refl _, hP _ _ st5.keep c4, by simpa using hD5⟩, ?_⟩
      rintro j k H6 ⟨rfl, hjl, st6, s6, f6, c6, hD6⟩
      by_cases hjt : j < (es d).length
      · have hje : (es d)[j]? = some (es d)[j] := List.getElem?_eq_getElem hjt
        have hsp2 : (((es d).take j).filter (pf d)).map (f d) ++ ((((es d).drop j).filter (pf d)).map (f d)) = fl2 es pf f d := by
          unfold fl2
          rw [← List.map_append, ← List.filter_append, List.take_append_drop]
        have hdr : (es d).drop j = (es d)[j] :: (es d).drop (j + 1) := List.drop_eq_getElem_cons hjt
        generalize (es d)[j] = e at hje hdr
        have em : e ∈ es d := List.mem_of_getElem? hje
        obtain ⟨go1, turn1⟩ := wk1.go H6 s6 f6 j e hje
        refine .inr ⟨go1, fun H' => ∃ k', k' < (es d).length - j ∧ (k' = (es d).length - (j + 1) ∧ j + 1 ≤ (es d).length ∧ Stp G1 H1 G2 H' ∧ Sub G5 H' ∧ Frz H5 H' ∧ Pre H' ∧ H' D = some (.lst ((ds.take i).flatMap (fl2 es pf f) ++ (((es d).take (j + 1)).filter (pf d)).map (f d)))), fun H' z => z, fun x H7 y => ?_⟩
        obtain ⟨e7, asg1⟩ := turn1 x H7 y
        refine asg1 (wipe (up d (wipe σ vs)) vs1) _ fun H8 e8 => ⟨hw1 d dm e em, ?_⟩
        have e68 := e7.trans e8
        have s8 : Sub G H8 := (st6.sub.less (st1.ex.trans st6.ex)).same e68
        refine ht d dm e em H8 s8 _ fun H9 e9 => ?_
        have e69 := e68.trans e9
        have hD9 := e69 D _ hD6
        cases hp : pf d e with
        | true =>
          simp only [if_true]
          refine he d dm e em hp H9 (s8.same e9) _ fun H10 e10 => ?_
          have e610 := e69.trans e10
          have hD10 := e610 D _ hD6
          refine ⟨_, hD10, lenOk (ys := (((es d).drop (j + 1)).filter (pf d)).map (f d) ++ (ds.drop (i + 1)).flatMap (fl2 es pf f)) (z := f d e) ?_, (es d).length - (j + 1), by omega, rfl, hjt, (st6.grow e610).write gD hD, (s6.same e610).upd gD5, (f6.same e610).upd (by rw [hD10]; simp), hP2 _ _ _ _ hD10 (hP _ _ e610 c6), ?_⟩
          · rw [← hsplit, ← hsp2, hdr, List.filter_cons, if_pos hp]
            simp
          · rw [upd_same, take_snoc hje, List.filter_append]
            simp [hp]
        | false =>
          simp only [Bool.false_eq_true, if_false]
          refine ⟨(es d).length - (j + 1), by omega, rfl, hjt, st6.grow e69, s6.same e69, f6.same e69, hP _ _ e69 c6, ?_⟩
          rw [take_snoc hje, List.filter_append]
          simpa [hp] using hD9
      · have ej : j = (es d).length := by omega
        subst ej
        refine .inl ⟨wk1.stop H6 s6 f6, ds.length - (i + 1), by omega, rfl, hlt, G2, st6, gD, ?_⟩
        rw [List.take_length] at hD6
        rw [← pre]
        exact hD6
    · have ei : i = ds.length := by omega
      subst ei
      rw [List.take_length] at hD2
      exact .inl ⟨wk.stop H2 (st.sub.less st.ex) (Same.frz st.keep), q D _ G2 H2 (st1.trans st) (st1.keep.free hD) gD hD2 rfl⟩
end
end K25

/-! K9 -/
/-! K9: sorted texts; slices, sums of tuples. -/
namespace K25
open PySem PySem.Spec PyProof.Rows L2
def leS (a b : Str) : Bool := decide (a.cps.toList ≤ b.cps.toList)
theorem str_ext {a b : Str} (h : a.cps.toList = b.cps.toList) : a = b := by
  cases a; cases b
  simp at h
  simp [h]
theorem leS_trans (a b c : Str) (h1 : leS a b = true) (h2 : leS b c = true) : leS a c = true := by
  unfold leS at *
  simp only [decide_eq_true_eq] at *
  exact List.le_trans h1 h2
theorem leS_total (a b : Str) : (leS a b || leS b a) = true := by
  unfold leS
  simp only [Bool.or_eq_true, decide_eq_true_eq]
  exact List.le_total _ _
theorem leS_anti {a b : Str} (h1 : leS a b = true) (h2 : leS b a = true) : a = b := by
  unfold leS at *
  simp only [decide_eq_true_eq] at *
  exact str_ext (List.le_antisymm h1 h2)
theorem leS_lt (a b : Str) : (!PySem.Spec.ltCps b.cps.toList a.cps.toList) = leS a b := by
  rw [PyProof.Rows.ltCps_eq]
  unfold leS
  rw [← decide_not]
  congr 1
def sortS (xs : List Str) : List Str := xs.mergeSort leS
theorem sortS_perm (xs : List Str) : (sortS xs).Perm xs := List.mergeSort_perm xs leS
theorem sortS_pw (xs : List Str) : (sortS xs).Pairwise fun a b => leS a b = true := List.pairwise_mergeSort leS_trans leS_total xs
theorem sortS_len (xs : List Str) : (sortS xs).length = xs.length := (sortS_perm xs).length_eq
theorem sortS_mem {xs : List Str} {x : Str} : x ∈ sortS xs ↔ x ∈ xs := (sortS_perm xs).mem_iff
theorem sortS_nodup {xs : List Str} (h : xs.Nodup) : (sortS xs).Nodup := (sortS_perm xs).nodup_iff.mpr h
theorem pw_sortedS : ∀ {l : List Str}, PyProof.Rows.sortedS l = true → l.Pairwise fun a b => leS a b = true
  | [], _ => .nil
  | x :: r, h => by
    have go : ∀ (r : List Str) (p : Str), PyProof.Rows.risingS p r = true → (p :: r).Pairwise fun a b => leS a b = true := by
      intro r
      induction r with
      | nil => intro p _; exact List.pairwise_singleton _ _
      | cons y r ih =>
        intro p hp
        unfold PyProof.Rows.risingS at hp
        rw [Bool.and_eq_true, leS_lt] at hp
        have hy := ih y hp.2
        refine List.pairwise_cons.mpr ⟨fun z hz => ?_, hy⟩
        rcases List.mem_cons.mp hz with rfl | hz
        · exact hp.1
        · exact leS_trans _ _ _ hp.1 ((List.pairwise_cons.mp hy).1 z hz)
    exact go r x h
/-- what is sorted and has these texts is this list -/
theorem sortS_eq {xs ys : List Str} (p : ys.Perm xs) (h : ys.Pairwise fun a b => leS a b = true) : ys = sortS xs :=
  List.Perm.eq_of_pairwise (le := fun a b => leS a b = true) (fun a b _ _ h1 h2 => leS_anti h1 h2) h (sortS_pw xs) (p.trans (sortS_perm xs).symm)
theorem sortS_of {xs ys : List Str} (p : ys.Perm xs) (h : PyProof.Rows.sortedS ys = true) : ys = sortS xs := sortS_eq p (pw_sortedS h)
theorem sortS_congr {xs ys : List Str} (p : ys.Perm xs) : sortS ys = sortS xs := sortS_eq ((sortS_perm ys).trans p) (sortS_pw ys)
theorem sortS_idem (xs : List Str) : sortS (sortS xs) = sortS xs := sortS_congr (sortS_perm xs)
section
variable {K : PySem.W.Frag} {σ : L2.St} {G : Hp} {ta tb te tl th : TE} {t : TT} {tr : TA} {v x y : V} {vs xs ys : List V} {b : Bool} {a p C dx : Addr} {Φ Ψ : V → Hp → Prop} {Pre : Hp → Prop} {kvs : List (Key × V)}
/-- sorted(xs), texts -/
theorem gl_sorted {xs : List Str} (h : Gv te σ G (.ref a)) (ha : G a = some (sL xs)) (hl : xs.length < 64) : Gls (tCB (rSortedS K) (tCons te tNil)) σ G ((sortS xs).map V.str) := fun H s Q q =>
  h H s _ fun H1 e1 => ⟨a, xs, rfl, SqL.of ((s.same e1).lst ha), hl, fun ys p h1 h2 hp => by
    rw [sortS_of h1 h2]
    exact q p _ (e1.trans (Same.put hp)) (e1.free hp) upd_same⟩
theorem gl_sortedN {xs : List Str} (h : Gls te σ G (xs.map V.str)) (hl : xs.length < 64) : Gls (tCB (rSortedS K) (tCons te tNil)) σ G ((sortS xs).map V.str) := fun H s Q q =>
  h H s _ fun p1 H1 e1 hp1 h1 => ⟨p1, xs, rfl, SqL.of h1, hl, fun ys p h1 h2 hp => by
    rw [sortS_of h1 h2]
    exact q p _ (e1.trans (Same.put hp)) (e1.free hp) upd_same⟩
def rSortedD : List V → Hp → VK → Prop := fun xs H Q => ∃ (a : Addr) (kvs : List (Key × V)) (ks : List Str), xs = [.ref a] ∧ Rd H a (.dK kvs) ∧ kvs.map (·.1) = ks.map Sum.inr ∧ ks.length < 64 ∧
    ∀ ys p, ys.Perm ks → PyProof.Rows.sortedS ys = true → H p = none → Q (.ref p) (upd H p (.lst (ys.map V.str)))
theorem cr_sortedD {X : Cx} (hcalm : X.calm = true) : CallR X (.builtin "sorted") rSortedD := call_sortedD hcalm
/-- sorted(d), its keys texts -/
theorem gl_sortedD {ks : List Str} (h : Gv te σ G (.ref a)) (ha : G a = some (.dK kvs)) (hk : kvs.map (·.1) = ks.map Sum.inr) (hl : ks.length < 64) : Gls (tCB rSortedD (tCons te tNil)) σ G ((sortS ks).map V.str) := fun H s Q q =>
  h H s _ fun H1 e1 => ⟨a, kvs, ks, rfl, (s.same e1).rd ha, hk, hl, fun ys p h1 h2 hp => by
    rw [sortS_of h1 h2]
    exact q p _ (e1.trans (Same.put hp)) (e1.free hp) upd_same⟩
/-- list(d) -/
def rListD : List V → Hp → VK → Prop := fun xs H Q => ∃ (a : Addr) (kvs : List (Key × V)), xs = [.ref a] ∧ Rd H a (.dK kvs) ∧ ∀ p, H p = none → Q (.ref p) (upd H p (.lst (kvs.map fun kv => kV kv.1)))
theorem cr_listD {X : Cx} (hcalm : X.calm = true) : CallR X (.type "list") rListD := call_listD hcalm
theorem gl_listD (h : Gv te σ G (.ref a)) (ha : G a = some (.dK kvs)) (e : kvs.map (fun kv => kV kv.1) = xs) : Gls (tCB rListD (tCons te tNil)) σ G xs := fun H s Q q =>
  h H s _ fun H1 e1 => ⟨a, kvs, rfl, (s.same e1).rd ha, fun p hp => by rw [e]; exact q p _ (e1.trans (Same.put hp)) (e1.free hp) upd_same⟩
/-- dict(d) -/
def rDictD : List V → Hp → VK → Prop := fun xs H Q => ∃ (a : Addr) (kvs : List (Key × V)), xs = [.ref a] ∧ Rd H a (.dK kvs) ∧ ∀ p, H p = none → Q (.ref p) (upd H p (.dK kvs))
theorem cr_dictD {X : Cx} : CallR X (.type "dict") rDictD := call_dictD
theorem gd_dictD (h : Gv te σ G (.ref a)) (ha : G a = some (.dK kvs)) : Gd (tCB rDictD (tCons te tNil)) σ G kvs := fun H s Q q =>
  h H s _ fun H1 e1 => ⟨a, kvs, rfl, (s.same e1).rd ha, fun p hp => q p _ (e1.trans (Same.put hp)) (e1.free hp) upd_same⟩
theorem PrD.ks {α : Type} {R : RelD α} {l : List (Str × α)} (h : PrD R G kvs l) : kvs.map (fun kv => kV kv.1) = (l.map (·.1)).map V.str := by
  have e := congrArg (List.map kV) h.keys
  rw [List.map_map, List.map_map] at e
  exact e
/-- t[lo:hi] of a tuple, not the whole -/
theorem gu_slT {lo hi : TO} {l u : Option Int} (h : Gv te σ G (.ref a)) (ha : G a = some (.tup xs)) (hlo : ∀ H Q, Q l H → lo σ H Q) (hhi : ∀ H Q, Q u H → hi σ H Q) (hw : ¬ (HT.sIx xs.length 0 l = 0 ∧ HT.sIx xs.length xs.length u = xs.length)) (e : cutV xs l u = ys) :
    Gu (tSl (rSlT K) te lo hi) σ G ys := fun H s Q q =>
  h H s _ fun H1 e1 => hlo H1 _ (hhi H1 _ ⟨a, xs, rfl, SqT.of ((s.same e1).tup ha), hw, fun p hp => by rw [e]; exact q p _ (e1.trans (Same.put hp)) (e1.free hp) upd_same⟩)
theorem gl_slL {lo hi : TO} {l u : Option Int} (h : Gv te σ G (.ref a)) (ha : G a = some (.lst xs)) (hlo : ∀ H Q, Q l H → lo σ H Q) (hhi : ∀ H Q, Q u H → hi σ H Q) (e : cutV xs l u = ys) :
    Gls (tSl (rSlL K) te lo hi) σ G ys := fun H s Q q =>
  h H s _ fun H1 e1 => hlo H1 _ (hhi H1 _ ⟨a, xs, rfl, SqL.of ((s.same e1).lst ha), fun p hp => by rw [e]; exact q p _ (e1.trans (Same.put hp)) (e1.free hp) upd_same⟩)
theorem gl_slN {lo hi : TO} {l u : Option Int} (h : Gls te σ G xs) (hlo : ∀ H Q, Q l H → lo σ H Q) (hhi : ∀ H Q, Q u H → hi σ H Q) (e : cutV xs l u = ys) :
    Gls (tSl (rSlL K) te lo hi) σ G ys := fun H s Q q =>
  h H s _ fun p1 H1 e1 hp1 h1 => hlo H1 _ (hhi H1 _ ⟨p1, xs, rfl, SqL.of h1, fun p hp => by rw [e]; exact q p _ (e1.trans (Same.put hp)) (e1.free hp) upd_same⟩)
theorem to_none : ∀ H Q, Q none H → tNoPart σ H Q := fun _ _ q => q
theorem to_int {i : Int} : ∀ H Q, Q (some i) H → tPart (tC (.int i)) σ H Q := fun H Q q => ⟨i, rfl, q⟩
/-- t + u of tuples, both new; u grows the known part -/
theorem ge_catT (h : Gu ta σ G xs) (hx : xs ≠ []) (hb : Gxa tr σ G fun vs G' => vs ≠ [] ∧ xs.length + vs.length ≤ 1000 ∧ ∀ p, G' p = none → Φ (.ref p) (upd G' p (.tup (xs ++ vs)))) : Ge (tOp (rCatT K) ta (tTup tr)) σ G Φ := fun H s _ Q q =>
  h H s _ fun p1 H1 e1 hp1 h1 => hb H1 (s.same e1) _ fun vs G2 H2 s2 f2 => by
    obtain ⟨f1, f3, f4⟩ := f2
    refine ⟨by rw [sizeLine_eq]; omega, fun p hp => ?_⟩
    have ne : p ≠ p1 := fun z => by rw [z, s2.keep _ _ h1] at hp; cases hp
    refine ⟨p1, p, xs, vs, rfl, rfl, SqT.of ?_, SqT.of upd_same, hx, by rw [sizeLine_eq]; omega, fun z => absurd z f1, fun _ p2 hp2 => ?_⟩
    · rw [upd_ne (Ne.symm ne)]; exact s2.keep _ _ h1
    · have st : Stp G H G2 (upd H2 p (.tup vs)) := (Stp.pre e1 s2).hide hp
      exact q _ _ _ (st.lay hp2) (f4 p2 (st.sub.non hp2))
end
end K25

/-! K10 -/
/-! K10: statements that lock; name = {..}. -/
namespace L2
open PySem PySem.Spec PyProof.Rows
section
variable {X : Cx}
/-- name = {..} on one line, the name a local -/
theorem ps_setDc {i : Nat} {y : Str} {py : Pos} {kx vx tg iter : Expr} {ifs : List Expr} {scope : Scope} {own : List (Str × Nat)} {pos spos : Pos} {wi : TI} {g : TG} {tt : TT} {tk tv : TE} (hc : X.calm = true) (hN : X.N.Nodup) (hy : X.N[i]? = some y) (hyl : X.env.scope.names.lookup y = some .local)
    (hsw : swapsWith (.DictComp kx vx [⟨tg, iter, ifs, 0⟩] scope pos) (some (.Name y py)) spos.line X.env = pure true) (hi : PI X tg iter wi) (ok : BlkOk X.N X.env.scope scope own)
    (hg : ∀ (s : Shared) (H : Hp) (C : Addr) (cl : List (Str × Addr)) (fp : List Addr), PG (X.blk s H scope (compEnvC scope cl C X.env) fp) tg g) (ht : ∀ (s : Shared) (H : Hp) (C : Addr) (cl : List (Str × Addr)) (fp : List Addr), PTs (X.blk s H scope (compEnvC scope cl C X.env) fp) ifs tt)
    (hk : ∀ (s : Shared) (H : Hp) (C : Addr) (cl : List (Str × Addr)) (fp : List Addr), PE (X.blk s H scope (compEnvC scope cl C X.env) fp) kx tk)
    (he : ∀ (s : Shared) (H : Hp) (C : Addr) (cl : List (Str × Addr)) (fp : List Addr), PE (X.blk s H scope (compEnvC scope cl C X.env) fp) vx tv) (hs : ∀ x, foldedSetIterable iter X.env x = pure x := by intro _; rfl) :
    PS X (.Assign [.Name y py] (.DictComp kx vx [⟨tg, iter, ifs, 0⟩] scope pos) spos) (tAsg (tDc wi g tt tk tv (own.map (·.2))) (gName i)) := by
  refine ⟨fun pins s σ H D I h => ?_⟩
  rw [exec_Assign_Name_used _ _ _ _ hsw]
  refine wpAny_bind (wpAny_standAt (wpAny_bind ?_))
  show wpAny _ X.A (do let _ ← comprehension (.DictComp kx vx [⟨tg, iter, ifs, 0⟩] scope pos) scope X.env (firstIterPos [⟨tg, iter, ifs, 0⟩] pos) newDict false (eval iter X.env) (some (assign (.Name y py) X.env))) _ _ s
  have h : tDc wi g tt tk tv (own.map (·.2)) σ H (fun x H1 => gName i x σ H1 D.nx) := h
  refine wpAny_bind (thn (dc_core (Qf := fun _ s' => SP X pins D .next s') hc hN I hi ok hg ht hk he hs h fun L C s' m H' I' q hn f => ?_) fun _ s' hq => wpAny_pure (wpAny_pure hq))
  show wpAny _ _ (assign (.Name y py) X.env (.ref L)) _ _ _
  refine wpAny_assign_Name (store_ok2 (v := V.ref L) I' hN hy (.inl hyl) rfl (fun s2 I2 ⟨a, sb, ha⟩ => ?_) (.inr hyl))
  obtain ⟨f0, f1, f2, f3, f4, f5⟩ := f
  have haC : C ≠ a := by
    rcases ha with z | z
    · rw [z]; exact f1
    · exact fun e => f4 y a z e.symm
  refine ⟨m, hn.sameBut sb haC, fun h3 sb3 => ?_⟩
  exact ⟨_, H', I2.turned (t' := s2.toks) (fun b o hb e => (sb3.2 b hb).trans e) f0 f1 f3 f4 f5, q⟩
theorem swD_true {kx vx : Expr} {gs : List Comprehension} {scope : Scope} {pos py : Pos} {y : Str} {l : Nat} {env : Env} (hk : env.scope.kind = .function) (hy : env.scope.names.lookup y = some .local) (hl : (py.line == pos.line) = true)
    (ha : (scope.names.any fun (n, k) => n == y && (k == .local || k == .cell)) = false) : swapsWith (.DictComp kx vx gs scope pos) (some (.Name y py)) l env = pure true := by
  have ky : env.kindOf y = some .local := hy
  have hb : env.blockKind = .function := by unfold Env.blockKind; rw [hk]; rfl
  unfold swapsWith
  simp only [hb, ky, ha, Expr.pos, hl]
  rfl
end
end L2
namespace K25
open PySem PySem.Spec PyProof.Rows L2
section
variable {X : Cx} {st : Stmt} {t : TE} {i : Nat}
theorem ps_asgLk (h : PS X st (tAsg t (gName i))) : PS X st (tAsg (tLk t) (gName i)) := ⟨fun pins s σ H D I hw => by
  rcases (hw : t σ H _ ∨ tLockE t σ H _) with hw | ⟨d, u, e, m, hw⟩
  · exact h.run pins s σ H D I hw
  · exact (ps_lock h).run pins s σ H D I ⟨d, u, e, m, fun od => hw od⟩⟩
theorem ps_asgLkN (h : PS X st (tAsg t (gName i))) : ∀ n, PS X st (tAsg (tLkN n t) (gName i))
  | 0 => h
  | n + 1 => ps_asgLk (ps_asgLkN h n)
theorem ps_asgLks (h : PS X st (tAsg t (gName i))) : PS X st (tAsg (tLkN 4 t) (gName i)) := ps_asgLkN h 4
def tLkS (t : TS) : TS := fun D σ H => t D σ H ∨ tLock t D σ H
theorem ps_lkS {t : TS} (h : PS X st t) : PS X st (tLkS t) := ⟨fun pins s σ H D I hw => hw.elim (h.run pins s σ H D I) ((ps_lock h).run pins s σ H D I)⟩
end
end K25

/-! K11 -/
/-! K11: loops, things of one's own. -/
namespace K25
open PySem PySem.Spec PyProof.Rows L2
/-- a thing of one's own: it stood not at the entry, it is not told -/
structure Own (H0 G : Hp) (p : Addr) (H : Hp) (o : HO) : Prop where
  h0 : H0 p = none
  g : G p = none
  at_ : H p = some o
section
variable {H0 G H G' H' : Hp} {p q : Addr} {o u : HO}
theorem Own.step (w : Own H0 G p H o) (st : Stp G H G' H') : Own H0 G' p H' o := ⟨w.h0, st.new p w.g (by rw [w.at_]; simp), st.keep p _ w.at_⟩
theorem Own.grow (w : Own H0 G p H o) (e : Same H H') : Own H0 G p H' o := ⟨w.h0, w.g, e p _ w.at_⟩
theorem Own.write (w : Own H0 G p H o) : Own H0 G p (L2.upd H p u) u := ⟨w.h0, w.g, upd_same⟩
theorem Own.other (w : Own H0 G p H o) (n : p ≠ q) : Own H0 G p (L2.upd H q u) o := ⟨w.h0, w.g, by rw [upd_ne n]; exact w.at_⟩
theorem Own.made (st : Stp G' H0 G H) {H1 : Hp} (e : Same H H1) (h : H p = none) (h1 : H1 p = some o) : Own H0 G p H1 o := ⟨st.keep.free h, st.sub.non h, h1⟩
theorem Stp.writeO {G0 : Hp} (st : Stp G0 H0 G H) (w : Own H0 G p H o) : Stp G0 H0 G (L2.upd H p u) := st.write w.g w.h0
end
/-- a step within a loop: entry (G0, H0), the loop's start (G1, H1), now (G2, H2) -/
structure Lp (G0 H0 G1 H1 G2 H2 : Hp) : Prop where
  st : Stp G0 H0 G2 H2
  ex : Same G1 G2
  fz : Frz H1 H2
section
variable {G0 H0 G1 H1 G2 H2 G3 H3 : Hp} {p : Addr} {o u : HO}
theorem Lp.grow (l : Lp G0 H0 G1 H1 G2 H2) (e : Same H2 H3) : Lp G0 H0 G1 H1 G2 H3 := ⟨l.st.grow e, l.ex, l.fz.same e⟩
theorem Lp.step (l : Lp G0 H0 G1 H1 G2 H2) (s : Stp G2 H2 G3 H3) : Lp G0 H0 G1 H1 G3 H3 := ⟨l.st.trans s, l.ex.trans s.ex, l.fz.same s.keep⟩
theorem Lp.write (l : Lp G0 H0 G1 H1 G2 H2) (w : Own H0 G2 p H2 o) (nf : ∀ ob x, o ≠ .frz ob x) : Lp G0 H0 G1 H1 G2 (upd H2 p u) := ⟨l.st.writeO w, l.ex, l.fz.upd fun ob x z => by rw [w.at_] at z; exact nf ob x (Option.some.inj z)⟩
theorem Lp.tell (l : Lp G0 H0 G1 H1 G2 H2) (w : Own H0 G2 p H2 o) : Lp G0 H0 G1 H1 (upd G2 p o) H2 := ⟨l.st.tell w.g w.h0 w.at_, l.ex.trans (Same.put w.g), l.fz⟩
end
section
variable {δ : Type} {K : PySem.W.Frag} {σ : L2.St} {G0 H0 G H : Hp} {ds : List δ} {up : δ → L2.St → L2.St} {wi : TI} {g : TG} {tb rest : TS} {D : Ends} {Pre : Hp → Prop} {ta tv td ty te : TE} {a : Addr} {kvs : List (Key × V)} {Φ : V → Hp → Prop}
theorem q_of {t : TS} {σ : L2.St} {H : Hp} {D : Ends} {rest : TS} (h : t { D with nx := rest D } σ H) : tSeq t rest D σ H := h
/-- THE LOOP -/
theorem s_for {Iv : Nat → L2.St → Hp → Hp → Prop} (st0 : Stp G0 H0 G H) (hi : GI Pre wi g σ G ds up) (c : Pre H) (gr : ∀ i σ' G' H1 H2, Same H1 H2 → Iv i σ' G' H1 → Iv i σ' G' H2)
    (start : ∀ G1 H1, Stp G H G1 H1 → Iv 0 σ G1 H1)
    (turn : ∀ G1 H1, Stp G H G1 H1 → ∀ i d, ds[i]? = some d → ∀ σ2 G2 H2, Lp G0 H0 G1 H1 G2 H2 → Iv i σ2 G2 H2 →
      tb { D with nx := fun σ3 H3 => ∃ G3, Lp G0 H0 G1 H1 G3 H3 ∧ Iv (i + 1) σ3 G3 H3, ct := fun σ3 H3 => ∃ G3, Lp G0 H0 G1 H1 G3 H3 ∧ Iv (i + 1) σ3 G3 H3, bk := D.nx } (up d σ2) H2)
    (done : ∀ G2 H2 σ2, Lp G0 H0 G H G2 H2 → Iv ds.length σ2 G2 H2 → D.nx σ2 H2) : tFor wi g tb D σ H := hi H st0.sub c _ fun J G1 H1 st1 wk => by
  refine ⟨fun i m σ2 H2 => m = ds.length - i ∧ i ≤ ds.length ∧ ∃ G2, Lp G0 H0 G1 H1 G2 H2 ∧ Iv i σ2 G2 H2, ⟨ds.length, by simp, Nat.zero_le _, G1, ⟨st0.trans st1, Same.refl _, Frz.refl _⟩, start G1 H1 st1⟩, ?_⟩
  rintro i m σ2 H2 ⟨rfl, hil, G2, lp, iv⟩
  have sub := lp.st.sub.less lp.ex
  by_cases hlt : i < ds.length
  · have hd : ds[i]? = some ds[i] := List.getElem?_eq_getElem hlt
    generalize ds[i] = d at hd
    obtain ⟨go, yl⟩ := wk.go H2 sub lp.fz i d hd
    refine .inr ⟨go, fun σ3 H3 => ∃ G3, Lp G0 H0 G1 H1 G3 H3 ∧ Iv (i + 1) σ3 G3 H3, fun σ3 H3 ⟨G3, l3, v3⟩ => ⟨ds.length - (i + 1), by omega, rfl, hlt, G3, l3, v3⟩, fun x H3 y => ?_⟩
    obtain ⟨e3, asg⟩ := yl x H3 y
    exact asg σ2 _ fun H4 e4 => turn G1 H1 st1 i d hd σ2 G2 H4 (lp.grow (e3.trans e4)) (gr _ _ _ _ _ (e3.trans e4) iv)
  · have ei : i = ds.length := by omega
    subst ei
    exact .inl ⟨wk.stop H2 sub lp.fz, done G2 H2 σ2 ⟨lp.st, st1.ex.trans lp.ex, Frz.pre st1.keep lp.fz⟩ iv⟩
/-- the dict is locked while the statement runs -/
theorem s_lkS {t : TS} (st0 : Stp G0 H0 G H) (gd : G a = some (.dK kvs))
    (h : ∀ (H01 H1 : Hp) (D1 : Ends), Stp G0 H01 G H1 → Lk a kvs H1 → (∀ b, b ≠ a → H1 b = H b) → (∀ b, H01 b = none ↔ H0 b = none) →
      (∀ σ' G' H', Lp G0 H01 G H1 G' H' → (∀ H'', Stp G0 H0 G' H'' → (∀ b, b ≠ a → H'' b = H' b) → D.nx σ' H'') → D1.nx σ' H') →
      (∀ v G' H', Lp G0 H01 G H1 G' H' → (∀ H'', Stp G0 H0 G' H'' → (∀ b, b ≠ a → H'' b = H' b) → D.rt v H'') → D1.rt v H') → t D1 σ H1) : tLkS t D σ H := by
  rcases st0.sub.rd gd with hd | ⟨ob, hd⟩
  · refine .inr ⟨a, .dK kvs, hd, trivial, fun od => ?_⟩
    have base : ∃ H01 : Hp, (∀ b, H01 b = none ↔ H0 b = none) ∧ (∀ b, b ≠ a → H01 b = H0 b) ∧ (H0 a = none ∨ (H0 a = some (.dK kvs) ∧ H01 a = some (.frz od (.dK kvs)))) := by
      cases e : H0 a with
      | none => exact ⟨H0, fun _ => Iff.rfl, fun _ _ => rfl, .inl rfl⟩
      | some x =>
        have e2 := st0.keep a x e
        rw [hd] at e2
        cases e2
        refine ⟨upd H0 a (.frz od (.dK kvs)), fun b => ?_, fun b ne => upd_ne ne, .inr ⟨rfl, upd_same⟩⟩
        by_cases ne : b = a
        · subst ne; rw [upd_same, e]; simp
        · rw [upd_ne ne]
    obtain ⟨H01, b1, b2, b3⟩ := base
    have st1 : Stp G0 H01 G (upd H a (.frz od (.dK kvs))) := ⟨st0.ex, sub_lock st0.sub gd, fun b o q => by
      by_cases ne : b = a
      · subst ne
        rcases b3 with b3 | ⟨b3, b4⟩
        · rw [(b1 b).mpr b3] at q; cases q
        · rw [b4] at q; cases q; exact upd_same
      · rw [upd_ne ne]
        exact st0.keep b o (by rw [← b2 b ne]; exact q), fun b g0 hn => st0.new b g0 fun z => hn ((b1 b).mpr z)⟩
    have back : ∀ G' H', Lp G0 H01 G (upd H a (.frz od (.dK kvs))) G' H' → H' a = some (.frz od (.dK kvs)) ∧ Stp G0 H0 G' (upd H' a (.dK kvs)) := fun G' H' lp => by
      have ea := lp.fz a od _ upd_same
      refine ⟨ea, lp.st.ex, fun b o q => ?_, fun b o q => ?_, fun b g0 hn => lp.st.new b g0 fun z => hn ((b1 b).mp z)⟩
      · by_cases ne : b = a
        · subst ne
          have := lp.ex b _ gd
          rw [q] at this
          cases this
          exact .inl upd_same
        · rw [upd_ne ne]
          exact lp.st.sub b o q
      · by_cases ne : b = a
        · subst ne
          rcases b3 with b3 | ⟨b3, b4⟩
          · rw [b3] at q; cases q
          · rw [b3] at q; cases q; exact upd_same
        · rw [upd_ne ne]
          exact lp.st.keep b o (by rw [b2 b ne]; exact q)
    exact h H01 _ _ st1 ⟨od, upd_same⟩ (fun b ne => upd_ne ne) b1 (fun σ' G' H' lp k => ⟨(back G' H' lp).1, k _ (back G' H' lp).2 fun b ne => upd_ne ne⟩) (fun v G' H' lp k => ⟨(back G' H' lp).1, k _ (back G' H' lp).2 fun b ne => upd_ne ne⟩)
  · exact .inl (h H0 H D st0 ⟨ob, hd⟩ (fun _ _ => rfl) (fun _ => Iff.rfl) (fun σ' G' H' lp k => k H' lp.st fun _ _ => rfl) (fun v G' H' lp k => k H' lp.st fun _ _ => rfl))
/-! ### writing -/
theorem s_dput (s : Sub G H) (hv : Ge tv σ G Φ) (h : ∀ v G1 H1, Stp G H G1 H1 → Φ v G1 → ∃ Gx a k kvs, Sub Gx H1 ∧ Gv td σ Gx (.ref a) ∧ Gv ty σ Gx (kV k) ∧ H1 a = some (.dK kvs) ∧ kvs.length < sizeLine ∧ ∀ H3, Same H1 H3 → D.nx σ (upd H3 a (.dK (putK kvs k v)))) : sDPut td ty tv D σ H :=
  hv H s trivial _ fun v G1 H1 st f => by
    obtain ⟨Gx, a, k, kvs, sx, hd, hk, ha, hl, q⟩ := h v G1 H1 st f
    exact hd H1 sx _ fun H2 e2 => hk H2 (sx.same e2) _ fun H3 e3 => ⟨a, _, rfl, .inl ⟨kvs, k, e3 _ _ (e2 _ _ ha), rfl, hl, rfl⟩, q H3 (e2.trans e3)⟩
theorem s_fld {f : Str} (s : Sub G H) (hv : Ge tv σ G Φ) (h : ∀ v G1 H1, Stp G H G1 H1 → Φ v G1 → ∃ Gx a C dx fs, Sub Gx H1 ∧ Gv ta σ Gx (.ref a) ∧ H1 a = some (.ins C dx fs) ∧ Cls K C ∧ NoAttr K C f ∧ fs.length < 1000 ∧ ∀ H3, Same H1 H3 → D.nx σ (upd H3 a (.ins C dx (putF f v fs)))) : sFld K ta tv f D σ H :=
  hv H s trivial _ fun v G1 H1 st fv => by
    obtain ⟨Gx, a, C, dx, fs, sx, hd, ha, c, n, hl, q⟩ := h v G1 H1 st fv
    exact hd H1 sx _ fun H2 e2 => ⟨a, C, dx, fs, rfl, e2 _ _ ha, c, n, hl, q H2 e2⟩
theorem s_fldN {f : Str} {Ψ : HO → Hp → Prop} (s : Sub G H) (hv : Gm Fr0 tv σ G Ψ) (h : ∀ p o G1 H1, Stp G H G1 H1 → H p = none → G1 p = none → H1 p = some o → Ψ o G1 → ∃ Gx a C dx fs, Sub Gx H1 ∧ Gv ta σ Gx (.ref a) ∧ H1 a = some (.ins C dx fs) ∧ Cls K C ∧ NoAttr K C f ∧ fs.length < 1000 ∧ ∀ H3, Same H1 H3 → D.nx σ (upd H3 a (.ins C dx (putF f (.ref p) fs)))) : sFld K ta tv f D σ H :=
  hv H s trivial _ fun p o G1 H1 st h0 gp hp fv => by
    obtain ⟨Gx, a, C, dx, fs, sx, hd, ha, c, n, hl, q⟩ := h p o G1 H1 st h0 gp hp fv
    exact hd H1 sx _ fun H2 e2 => ⟨a, C, dx, fs, rfl, e2 _ _ ha, c, n, hl, q H2 e2⟩
theorem s_append {v : V} {xs : List V} (s : Sub G H) (ho : Gv ta σ G (.ref a)) (hv : Gv te σ G v) (ha : H a = some (.lst xs)) (hl : xs.length < sizeLine) (k : ∀ H1, Same H H1 → D.nx σ (upd H1 a (.lst (xs ++ [v])))) : tDrop (tBM K "list" rAppend ta (tCons te tNil)) D σ H :=
  ho H s _ fun H1 e1 => ⟨.inl ⟨rfl, xs, SqL.of (e1 _ _ ha)⟩, ga_cons hv ga_nil H1 (s.same e1) _ fun H2 e2 => ⟨a, xs, v, rfl, rfl, e2 _ _ (e1 _ _ ha), hl, k H2 (e1.trans e2)⟩⟩
theorem s_appendX {xs : List V} (s : Sub G H) (ho : Gv ta σ G (.ref a)) (hv : Ge te σ G Φ) (ha : H a = some (.lst xs)) (hl : xs.length < sizeLine) (k : ∀ v G1 H1, Stp G H G1 H1 → Φ v G1 → D.nx σ (upd H1 a (.lst (xs ++ [v])))) : tDrop (tBM K "list" rAppend ta (tCons te tNil)) D σ H :=
  ho H s _ fun H1 e1 => ⟨.inl ⟨rfl, xs, SqL.of (e1 _ _ ha)⟩, hv H1 (s.same e1) trivial _ fun v G2 H2 st f => ⟨a, xs, v, rfl, rfl, st.keep _ _ (e1 _ _ ha), hl, k v G2 H2 (st.pre e1) f⟩⟩
theorem s_ddel {k : Key} (s : Sub G H) (hd : Gv td σ G (.ref a)) (hk : Gv ty σ G (kV k)) (ha : H a = some (.dK kvs)) (hs : (valV kvs k).isSome = true) (q : ∀ H1, Same H H1 → D.nx σ (upd H1 a (.dK (dropK kvs k)))) : sDDel td ty D σ H :=
  hd H s _ fun H1 e1 => hk H1 (s.same e1) _ fun H2 e2 => ⟨a, kvs, k, rfl, e2 _ _ (e1 _ _ ha), rfl, hs, q H2 (e1.trans e2)⟩
/-- isinstance(xs, (list, tuple)), a list -/
theorem gv_isiLT {v : V} (hv : Gv te σ G v) (ty : Ty K G v (.type "list")) : Gv (tCB (rIsiT K) (tCons te (tCons (tTup (tCons (tC (.ty "list")) (tCons (tC (.ty "tuple")) tNil))) tNil))) σ G (.bl true) := fun H s Q q =>
  hv H s _ fun H1 e1 => ⟨few rfl, fun p hp => ⟨v, p, [.ty "list", .ty "tuple"], .type "list", [.type "list", .type "tuple"], true, rfl, upd_same, .cons (.ty _) (.cons (.ty _) .nil), ty _ ((s.same e1).same (Same.put hp)), by unfold PySem.W.kitAny; rw [kit_self], q _ (e1.trans (Same.put hp))⟩⟩
/-- making an instance: self is told at the end -/
theorem ge_make {tr : TA} {vs dvs : List V} {sp : Sp} {E : XK} {C : Addr} {Φ : V → Hp → Prop} (h : Ga tr σ G vs)
    (hs : ∀ x dx H1 H2, Sub G H1 → H1 x = none → Same H1 H2 → H2 x = some (.ins C dx []) → ∀ (Q : VK) (E : XK), (∀ G' H' fs, Stp G H1 G' H' → Own H1 G' x H' (.ins C dx fs) → Φ (.ref x) (upd G' x (.ins C dx fs)) → Q .non H') → sp (.ref x :: (vs ++ dvs)) H2 Q E) : Gx Pre (tMake C sp dvs E tr) σ G Φ := fun H s _ Q q =>
  h H s _ fun H1 e1 => fun x dx hx hdx ne => by
    have hdx' : (upd H1 dx (.own x)) x = none := by rw [upd_ne (Ne.symm ne)]; exact hx
    refine hs x dx H1 _ (s.same e1) hx ((Same.put hdx).trans (Same.put hdx')) upd_same _ _ fun G' H' fs st w f => ⟨rfl, ?_⟩
    exact q _ _ H' ((Stp.pre e1 st).tell w.g (e1.free w.h0) w.at_) f
/-- enumerate(xs) -/
theorem gi_enum {i1 i2 : Nat} {emb : δ → V} (h : Gv ta σ G (.ref a)) (ha : G a = some (.lst (ds.map emb))) : GI Pre (iEnum K (tCons ta tNil)) (gTup K 2 (gCons (gName i1) (gCons (gName i2) gNil))) σ G ds.zipIdx (upN2 i1 i2 (fun q => .int (q.2 : Nat)) fun q => emb q.1) := fun H s _ R r =>
  h H s _ fun H1 e1 => ⟨a, _, rfl, SqL.of ((s.same e1).lst ha), r _ G H1 ((Stp.refl s).grow e1) ⟨fun H2 s2 _ i q hq => by
    rw [List.getElem?_zipIdx] at hq
    cases e : ds[i]? with
    | none => rw [e] at hq; cases hq
    | some d =>
      rw [e] at hq
      have eq : (d, 0 + i) = q := Option.some.inj hq
      subst eq
      refine ⟨⟨_, _, SqL.of (s2.lst ha), map_at e⟩, fun x H3 y => ?_⟩
      obtain ⟨T, w, rfl, hT, rfl, y⟩ := y
      have ew := (y _ (SqL.of (s2.lst ha))).symm.trans (map_at e)
      cases ew
      refine ⟨Same.put hT, fun σ' Q q' => ⟨T, [.int (i : Nat), emb d], rfl, SqT.of upd_same, rfl, _, _, rfl, _, _, rfl, rfl, ?_⟩⟩
      have z := q' _ (Same.refl _)
      unfold upN2 at z
      simp only [Nat.zero_add] at z
      exact z, fun H2 s2 _ => ⟨_, SqL.of (s2.lst ha), by simp⟩⟩⟩
end
end K25

/-! K12 -/
/-! K12: an own class's special methods. -/
namespace K25
open PySem PySem.Spec PyProof.Rows L2
section
variable {X : Cx} {k j : Nat} {C f : Addr} {fd : FuncData} {ps : List Str} {sp : Sp} {pins : List (Addr × Obj)} {σ : L2.St} {H : Hp} {s : Shared} {us : List Value} {vs : List V} {Q : VK}
/-- the callee runs, at any place with room -/
theorem run_at {A : Around} {E' : Value → Shared → Prop} {E : XK} (F : FnOk X.prog X.w X.K X.mg X.base CX0 k f fd ps sp) (hr : Room k A) (e0 : Env0 X.prog X.w X.K X.mg X.base A X.stack s H) (hb : Binds X.K fd ps []) (I : Inv X pins σ H s) (r : Vals vs us) (h : sp vs H Q E) :
    wpAny (model X.prog X.w) A (call (.ref f) us) (EP X pins σ Q) E' s := by
  have hl : us.length = ps.length := by rw [← r.length]; exact F.len _ _ _ _ h
  have hbb := hb s us I.kIn (by simpa using hl)
  rw [List.append_nil] at hbb
  refine wpAny_call (codeAny_mono (F.run A X.stack s H ⟨us, []⟩ us vs Q E hr e0 hbb r h) fun r s' hq => ?_)
  cases r with
  | error e => exact False.elim hq
  | ok fl =>
    cases fl with
    | ret u => exact I.after hq
    | next => exact False.elim hq
    | brk => exact False.elim hq
    | cont => exact False.elim hq
/-- o[i], own __getitem__ -/
def rIxOwn (C : Addr) (sp : Sp) : R2 := fun x y H Q => ∃ a dx fs, x = .ref a ∧ H a = some (.ins C dx fs) ∧ sp [.ref a, y] H Q E0
theorem ix_own (c : Met X.prog X.w X.K X.mg X.base k C "__getitem__" sp) (hr : Room j X.A) (hk : k + 1 ≤ j) (hfn : ∀ f, Meth X.K C "__getitem__" f → PySem.W.fnIn X.K f = true) {a b : Expr} {ta tb : TE} {pos : Pos} (ha : PE X a ta) (hb : PE X b tb)
    (hsl : ∀ v i, subscripted b true v i = runValue (.builtin "lifetime.subscript" ⟨[v, i], []⟩) := by intro _ _; rfl) : PE X (.Subscript a b pos) (tOp (rIxOwn C sp) ta tb) := by
  refine ⟨fun pins s σ H Q I h => ?_⟩
  refine Subscript_ (binT ha hb I h fun v u s2 x y H2 I2 rx ry q => ?_)
  obtain ⟨o, dx, fs, rfl, ea, q⟩ := q
  cases rx
  obtain ⟨f, fd, ps, hc, hm, F, bd⟩ := c.ex
  obtain ⟨mA, O, _⟩ := ins_get I2.hok ea
  obtain ⟨od, J, _⟩ := O.look
  obtain ⟨m, hF⟩ := I2.fr
  refine PySem.W.sub_K hF I2.ok.mod.kin J hm.at_ (hfn f hm) hm.fn ?_ (hsl _ _)
  exact run_at F (hr.mono hk).in1 I2.env0.in1 bd I2 (.cons (show L2.RelV (.ref o) (.ref o) from rfl) (.cons ry .nil)) q
/-- o[i] = v, own __setitem__ -/
def rSetOwn (C : Addr) (sp : Sp) : TSet := fun o i v H Q => ∃ a dx fs, o = .ref a ∧ H a = some (.ins C dx fs) ∧ sp [.ref a, i, v] H (fun _ H' => Q H') E0
theorem set_own (c : Met X.prog X.w X.K X.mg X.base k C "__setitem__" sp) (hr : Room j X.A) (hk : k ≤ j) (hq : PySem.W.noSeq X.K C = true) : PSet X (rSetOwn C sp) := by
  intro pins s σ H o i v ov iv u Q I ro ri rv h
  obtain ⟨a, dx, fs, rfl, ea, q⟩ := h
  cases ro
  obtain ⟨f, fd, ps, hc, hm, F, bd⟩ := c.ex
  obtain ⟨mA, O, _⟩ := ins_get I.hok ea
  obtain ⟨od, J, _⟩ := O.look
  obtain ⟨m, hF⟩ := I.fr
  refine PySem.W.ksp_setItem hF I.ok.mod.kin J hq hm.at_ hm.fn (wpAny_mono (run_at (E' := X.xe) F (hr.mono hk) I.env0 bd I (.cons (show L2.RelV (.ref a) (.ref a) from rfl) (.cons ri (.cons rv .nil))) q) (fun v s' z => ?_) fun _ _ z => z)
  obtain ⟨y, H', I', _, z⟩ := z
  exact ⟨H', I', z⟩
/-- len(o), own __len__ -/
def rLenOwn (C : Addr) (sp : Sp) : List V → Hp → VK → Prop := fun xs H Q => ∃ a dx fs, xs = [.ref a] ∧ H a = some (.ins C dx fs) ∧ sp [.ref a] H (fun v H' => ∃ n : Int, v = .int n ∧ 0 ≤ n ∧ n < 2 ^ 63 ∧ Q (.int n) H') E0
theorem call_lenOwn (c : Met X.prog X.w X.K X.mg X.base k C "__len__" sp) (hr : Room j X.A) (hk : k + 1 ≤ j) : CallR X (.builtin "len") (rLenOwn C sp) := by
  intro pins s σ H xs us Q I r h
  obtain ⟨a, dx, fs, rfl, ea, q⟩ := h
  obtain ⟨u, rfl, ru⟩ := vals1 r
  cases ru
  obtain ⟨f, fd, ps, hc, hm, F, bd⟩ := c.ex
  obtain ⟨mA, O, _⟩ := ins_get I.hok ea
  obtain ⟨od, J, _⟩ := O.look
  obtain ⟨m, hF⟩ := I.fr
  refine PySem.W.len_K hF I.ok.mod.kin J hm.at_ hm.fn (wpAny_mono (run_at (E' := X.xe) F (hr.mono hk).in1 I.env0.in1 bd I (.cons (show L2.RelV (.ref a) (.ref a) from rfl) .nil) q) (fun v s' z => ?_) fun _ _ z => z)
  obtain ⟨y, H', I', ry, n, rfl, h0, h1, z⟩ := z
  obtain ⟨t, rfl⟩ := ry
  exact ⟨⟨h0, h1⟩, .int n, H', I'.tok _, ⟨_, rfl⟩, z⟩
end
end K25
namespace PySem.W
open PySem PySem.Calls PyProof.Rows PySem.Spec
section
variable {prog : Program} {w : World} {A : Around} {E : Value → Shared → Prop} {s : Shared} {K : Frag} {x y C L f : Addr} {h₀ : Heap} {m : Str → Option Value} {ox oy : Obj} {od od' : Option Obj} {name : Str}
theorem k25_neSlot : Slot "object" "__ne__" "object.__ne__" := PySem.F.cmp_object.ne
theorem k25_ifBoundB {M : Model} {id : String} {args : List Value} {Q : Option Value → Shared → Prop} (X : K.In s.heap) (I : InstAt s.heap x ox C od) (hs : findIn K (.ref C) name = some (some (.builtin id))) (hb : ∀ self, bindSpecial (.builtin id) self = pure (.builtin id, [self]))
    (h : wpAny M A (call (.builtin id) (.ref x :: args)) (fun v => Q (some v)) E s) : wpAny M A (callSpecialIfBound? (.ref x) name args) Q E s := by
  simp only [callSpecialIfBound?, bindSpecialIfBound?]
  refine wpAny_holding (wpAny_bind (wpAny_bind (wpAny_bind (I.type.here ((looks_findIn X hs).here ?_)))))
  simp only [hb]
  refine wpAny_bind (wpAny_askSetting (wpAny_ite ?_))
  have fin : wpAny M A (call (.builtin id) ([.ref x] ++ args) >>= fun v => pure (some v)) Q E s := wpAny_bind (wpAny_mono h (fun v s' h' => wpAny_pure h') fun _ _ h' => h')
  split
  · exact wpAny_bind (wpAny_pure (wpAny_pure fin))
  · exact wpAny_tryCatch (wpAny_bind (wpAny_pure (wpAny_pure fin)))
/-- x != y, both of a class with an own __eq__ and object's __ne__ -/
theorem k25_ne {Q : Value → Shared → Prop} (hu : A.units + 1 < cLine) (F : Fr h₀ L s.heap m) (X₀ : K.In h₀) (I : InstAt s.heap x ox C od) (J : InstAt s.heap y oy C od') (hn : findIn K (.ref C) "__ne__" = some (some (.builtin "object.__ne__"))) (ho : mroIn K C (.type "object") = some true)
    (hs : findIn K (.ref C) "__eq__" = some (some (.ref f))) (hf : isFn K (.ref f) = true)
    (h : wpAny (model prog w) A.in1 (call (.ref f) [.ref x, .ref y]) (fun v s' => ∃ b, v = .bool b ∧ Q (.bool (!b)) s') E s) : wpAny (model prog w) A (richCompare .NotEq (.ref x) (.ref y)) Q E s := by
  have X := X₀.keeps F.keep
  have one : wpAny (model prog w) A (tryCompare (.ref x) (cmpInfo .NotEq).2.1 (.ref y)) (fun r s' => ∃ b, r = some (.bool b) ∧ Q (.bool b) s') E s := by
    unfold tryCompare
    refine wpAny_bind (k25_ifBoundB X I hn k25_neSlot.bind ?_)
    have hi : Looks (model prog w) s.heap (isInstance (.ref x) (.type "object")) true := I.type.andThen (looks_mroIn X ho)
    refine wpAny_call (codeAny_call_builtin k25_neSlot.plain PySem.F.cmpEntry_ne (check_slot PySem.F.cmpKind_ne PySem.F.cmpSplit_ne hi (PySem.F.cmpArgs_ne _ _) ?_))
    unfold Builtin.«object.__ne__»
    have spe : ∀ {Q' : Option Value → Shared → Prop} {E' : Value → Shared → Prop}, (∀ e s', E e s' → E' e s') → (∀ b s', Q (.bool (!b)) s' → Q' (some (.bool b)) s') → wpAny (model prog w) A.in1 (callSpecialIfBound? (.ref x) (Str.ofString "__eq__") [.ref y]) Q' E' s := fun hE k =>
      ifBound_K X I hs hf (wpAny_mono h (fun v s' ⟨b, eb, z⟩ => by subst eb; exact k b s' z) hE)
    repeat (first | with_reducible refine wpAny_cRoomFor hu ?_ | refine spe (fun e s' z => z) fun b s' z => ?_ | wp_step)
    all_goals exact ⟨_, rfl, z⟩
  unfold richCompare
  simp only [oneThing_ref]
  refine wpAny_holding (wpAny_bind (wpAny_cRoomFor (by omega) ?_))
  refine wpAny_bind (I.type.here (wpAny_bind (J.type.here ?_)))
  split
  · rename_i q
    simp at q
  · refine wpAny_bind (wpAny_pure ?_)
    simp only [Bool.false_eq_true, if_false]
    refine wpAny_bind (wpAny_mono one (fun r s' z => ?_) fun _ _ e => e)
    obtain ⟨b, rfl, hq⟩ := z
    exact wpAny_pure hq
end
end PySem.W
namespace K25
open PySem PySem.Spec PyProof.Rows L2
section
variable {X : Cx} {k j : Nat} {C : Addr} {sp : Sp}
/-- x != y, own __eq__, object's __ne__ -/
def rNeOwn (C : Addr) (sp : Sp) : R2 := fun x y H Q => ∃ a b dx dy fs gs, x = .ref a ∧ y = .ref b ∧ H a = some (.ins C dx fs) ∧ H b = some (.ins C dy gs) ∧ sp [.ref a, .ref b] H (fun v H' => ∃ r, v = .bl r ∧ Q (.bl (!r)) H') E0
theorem op_neOwn (c : Met X.prog X.w X.K X.mg X.base k C "__eq__" sp) (hr : Room j X.A) (hk : k + 1 ≤ j) (hn : PySem.W.findIn X.K (.ref C) "__ne__" = some (some (.builtin "object.__ne__"))) (ho : PySem.W.mroIn X.K C (.type "object") = some true) : OpR X (compareOp .NotEq) (rNeOwn C sp) := by
  intro pins s σ H x y v u Q I rx ry h
  obtain ⟨a, b, dx, dy, fs, gs, rfl, rfl, ea, eb, q⟩ := h
  cases rx
  cases ry
  obtain ⟨f, fd, ps, hc, hm, F, bd⟩ := c.ex
  obtain ⟨mA, O, _⟩ := ins_get I.hok ea
  obtain ⟨od, J, _⟩ := O.look
  obtain ⟨mB, O', _⟩ := ins_get I.hok eb
  obtain ⟨od', J', _⟩ := O'.look
  obtain ⟨m, hF⟩ := I.fr
  refine PySem.W.k25_ne (by have := hr.units; omega) hF I.ok.mod.kin J J' hn ho hm.at_ hm.fn (wpAny_mono (run_at (E' := X.xe) F (hr.mono hk).in1 I.env0.in1 bd I (.cons (show L2.RelV (.ref a) (.ref a) from rfl) (.cons (show L2.RelV (.ref b) (.ref b) from rfl) .nil)) q) (fun v s' z => ?_) fun _ _ z => z)
  obtain ⟨y, H', I', ry, r, rfl, z⟩ := z
  cases ry
  exact ⟨r, rfl, .bl (!r), H', I', rfl, z⟩
end
end K25

/-! F5 -/
namespace K25
open PySem PySem.Spec PyProof.Rows L2
section
variable {P : Program} {w : World} {K : PySem.W.Frag} {mg : Str → Option Value} {base : Heap}
def spIsTest (n : Nat) : Sp := fun vs H Q _ => ∃ a v d t fs G, vs = [.ref a, v, .int d] ∧ Sub G H ∧ FsAt G a fs ∧ FsOk fs ∧ TstAt t v G ∧ TstOk fs t ∧ t.dep < n ∧ d + t.dep ≤ 4 ∧ ∀ H', Same H H' → Q (.bl true) H'
theorem sv_isTest {n : Nat} {G : Hp} {a : Addr} {v : V} {d : Int} {t : Tst} {fs : Flds} (h1 : FsAt G a fs) (h2 : FsOk fs) (h3 : TstAt t v G) (h4 : TstOk fs t) (h5 : t.dep < n) (h6 : d + t.dep ≤ 4) : Sv (spIsTest n) [.ref a, v, .int d] G (.bl true) := fun H s Q E q => ⟨a, v, d, t, fs, G, rfl, s, h1, h2, h3, h4, h5, h6, q⟩
theorem nm_of {fs : Flds} (ok : FsOk fs) {f : Str} {g : Fld} (h : valD fs f = some g) : Nm f := ok.nm _ (valD_mem h)
abbrev N_is_test : List Str := ["fields", "thing", "depth", "words", "word"]
theorem sc_is_test : FnScope N_is_test ["fields", "thing", "depth"] (defScope s_is_test) := ⟨rfl, rfl, rfl, by decide +kernel, rfl, by decide +kernel, by decide +kernel⟩
-- slots: 0 fields, 1 thing, 2 depth, 3 words*, 4 word
--@REC is_test
theorem c_is_test_all (T : Tx K mg) : ∀ n, Cal P w K mg base (n + 3) "is_test" (spIsTest n) := by
  intro n
  induction n with
  | zero => exact ⟨_, _, ["fields", "thing", "depth"], fn_body T.f_is_test sc_is_test (fun vs H Q E h => by obtain ⟨_, _, _, _, _, _, rfl, _⟩ := h; rfl) (fun cdv A outer s H vs Q E hr h => by obtain ⟨_, _, _, _, _, _, _, _, _, _, _, _, h, _⟩ := h; exact absurd h (Nat.not_lt_zero _)), T.g_is_test, T.f_is_test.kp, T.f_is_test.bindsN fun _ _ _ _ _ _ us hl => match us, hl with | [_, _, _], _ => rfl⟩
  | succ n ih =>
  have c_is_test := fun _ : Tx K mg => ih
  refine ⟨_, _, ["fields", "thing", "depth"], fn_body T.f_is_test sc_is_test (fun vs H Q E h => by obtain ⟨_, _, _, _, _, _, rfl, _⟩ := h; rfl) (fun cdv A outer s H vs Q E hr h => ?_), T.g_is_test, T.f_is_test.kp, T.f_is_test.bindsN fun _ _ _ _ _ _ us hl => match us, hl with | [_, _, _], _ => rfl⟩
  obtain ⟨fa, v, d, t, fs, G, rfl, sG, hF, oF, hT, oT, hn, hd, k⟩ := h
  have hu := hu_of hr
  refine ⟨_,
    (pss_cons (ps_if (PW.pt (pw_or (pt_not (pt_val (pe_callB (call_isiK rfl) (by rfl) T.b_isinstance (by decide +kernel) (pa_cons (pv 1) (pa_cons (pe_bltn (v := .ty "tuple") (by rfl) T.b_tuple (by decide +kernel) rfl) pa_nil))))) (pw_or (pt_cmpR (op_eqNilTK rfl hr.units) (pv 1) (pe_tup pa_nil) (nomark _)) (pw_or1 (pt_not (pt_val (pe_callB (call_isiK rfl) (by rfl) T.b_isinstance (by decide +kernel) (pa_cons (pe_ix (ix_tupK rfl) (pv 1) pe_int (fun _ _ => rfl)) (pa_cons (pe_bltn (v := .ty "str") (by rfl) T.b_str (by decide +kernel) rfl) pa_nil)))))))))
      (pss_one (ps_ret pe_bl))
      pss_nil)
    (pss_cons (ps_if (pt_cmpR op_eq (pe_ix (ix_tupK rfl) (pv 1) pe_int (fun _ _ => rfl)) pe_str (nomark _))
      (pss_cons (ps_if (PW.pt (pw_or (pt_cmpR op_ne (pe_callB (call_len_seqK rfl) (by rfl) T.b_len (by decide +kernel) (pa_cons (pv 1) pa_nil)) pe_int (nomark _)) (pw_or (pt_cmpR op_ne (pe_cal (c_sort_of T) hr (by omega) rfl (pa_cons (pv 0) (pa_cons (pe_ix (ix_tupK rfl) (pv 1) pe_int (fun _ _ => rfl)) pa_nil))) pe_str (nomark _)) (pw_or1 (pt_not (pt_val (pe_callB (call_isiK rfl) (by rfl) T.b_isinstance (by decide +kernel) (pa_cons (pe_ix (ix_tupK rfl) (pv 1) pe_int (fun _ _ => rfl)) (pa_cons (pe_bltn (v := .ty "list") (by rfl) T.b_list (by decide +kernel) rfl) pa_nil)))))))))
        (pss_one (ps_ret pe_bl))
        pss_nil)
      (pss_cons (ps_set (i := 3) sc_is_test.nd rfl (Or.inr rfl) (pe_ix (ix_tupK rfl) (pe_dget hu (pv 0) (pe_ix (ix_tupK rfl) (pv 1) pe_int (fun _ _ => rfl)) (fun _ _ => rfl)) pe_int (fun _ _ => rfl)))
      (pss_one (ps_ret (pe_and (pe_cmpR (op_neNilK rfl hr.units) (pe_ix (ix_tupK rfl) (pv 1) pe_int (fun _ _ => rfl)) (pe_lst pa_nil) (nomark _)) (pe_one (pe_callB (cr_allK rfl rfl) (by rfl) T.b_all (by decide +kernel) (pa_cons (pe_lc rfl sc_is_test.nd (pi_listK rfl (pe_ix (ix_tupK rfl) (pv 1) pe_int (fun _ _ => rfl))) (blkOk_by (own := [("word", 4)]) (N := N_is_test) (sc := defScope s_is_test) (by decide +kernel)) (fun _ _ _ _ _ => (pg_name (i := 4) sc_is_test.nd rfl (Or.inl rfl))) (fun _ _ _ _ _ => pts_nil) (fun _ _ _ _ _ => (pe_and (pe_cal (c_is_name T) hr (by omega) rfl (pa_cons (pv 4) pa_nil)) (pe_one (pe_cmpR (op_in_seqK rfl) (pv 4) (pv 3) (by rfl)))))) pa_nil))))))))
      pss_nil)
    (pss_cons (ps_if (pt_cmpR op_eq (pe_ix (ix_tupK rfl) (pv 1) pe_int (fun _ _ => rfl)) pe_str (nomark _))
      (pss_one (ps_ret (pe_and (pe_cmpR op_eq (pe_callB (call_len_seqK rfl) (by rfl) T.b_len (by decide +kernel) (pa_cons (pv 1) pa_nil)) pe_int (nomark _)) (pe_one (pe_cmpR (op_in_seqK rfl) (pe_cal (c_sort_of T) hr (by omega) rfl (pa_cons (pv 0) (pa_cons (pe_ix (ix_tupK rfl) (pv 1) pe_int (fun _ _ => rfl)) pa_nil))) (pe_tup (pa_cons pe_str (pa_cons pe_str pa_nil))) (by rfl))))))
      pss_nil)
    (pss_one (ps_ret (pe_and (pe_cmpR op_eq (pe_ix (ix_tupK rfl) (pv 1) pe_int (fun _ _ => rfl)) pe_str (nomark _)) (pe_and (pe_cmpR op_eq (pe_callB (call_len_seqK rfl) (by rfl) T.b_len (by decide +kernel) (pa_cons (pv 1) pa_nil)) pe_int (nomark _)) (pe_and (pe_cmpR op_lt (pv 2) pe_int (nomark _)) (pe_one (pe_cal (c_is_test T) hr (by omega) rfl (pa_cons (pv 0) (pa_cons (pe_ix (ix_tupK rfl) (pv 1) pe_int (fun _ _ => rfl)) (pa_cons (pe_op op_add (pv 2) pe_int) pa_nil))))))))))))), ?_⟩
  obtain ⟨a, r, rfl, ha⟩ := hT.any
  have i0 : ∀ {σ : L2.St}, σ[1]? = some (some (.ref a)) → Gv (tOp (rIxT K) (tVar 1) (tC (.int 0))) σ G (.str t.word) := fun h => gv_op (gv_var h) gv_c (rv_ixT ha (at0 _ _))
  refine q_no sG (gt_or (gt_not (gt_B (gv_isiY (gv_var rfl) (ty_tup ha)))) fun _ => gt_or (gt_test (gv_eqNilT (gv_var rfl) ha (gu_tup ga_nil (by decide)))) fun _ => gt_not (gt_B (gv_isiY (i0 rfl) ty_str))) fun H1 e1 => ?_
  replace sG := sG.same e1
  have eqs : ∀ {σ : L2.St} (w : Str), σ[1]? = some (some (.ref a)) → Gv (tOp rEq (tOp (rIxT K) (tVar 1) (tC (.int 0))) (tC (.str w))) σ G (.bl (decide (t.word = w))) := fun w h => gv_eq (by simp) (gv_op (i0 h) gv_c (rv_eq rfl))
  cases t with
  | is f ws =>
    obtain ⟨a', l, e, h1, h2⟩ := hT
    cases e
    obtain ⟨us, o1, o2, o3, o4⟩ := oT
    obtain ⟨kvs, fv, hf1, hf2, hf3⟩ := hF.get o1
    obtain ⟨fa', fl, rfl, g1, g2⟩ := hf3
    have i1 : ∀ {σ : L2.St}, σ[1]? = some (some (.ref a)) → Gv (tOp (rIxT K) (tVar 1) (tC (.int 1))) σ G (.str f) := fun h => gv_op (gv_var h) gv_c (rv_ixT h1 rfl)
    have i2 : ∀ {σ : L2.St}, σ[1]? = some (some (.ref a)) → Gv (tOp (rIxT K) (tVar 1) (tC (.int 2))) σ G (.ref l) := fun h => gv_op (gv_var h) gv_c (rv_ixT h1 rfl)
    refine q_yes sG (gt_test (eqs "is" rfl)) fun H2 e2 => ?_
    replace sG := sG.same e2
    refine q_no sG (gt_or (gt_test (gv_op (gv_lenT (n := 3) (gv_var rfl) h1 rfl) gv_c (rv_ne rfl))) fun _ => gt_or (gt_test (gv_op (gv_call (ga_cons (gv_var rfl) (ga_cons (i1 rfl) ga_nil)) (sv_sortOf hF o1 (nm_of oF o1))) gv_c (rv_ne rfl))) fun _ => gt_not (gt_B (gv_isiY (i2 rfl) (ty_lst h2)))) fun H3 e3 => ?_
    replace sG := sG.same e3
    refine q_set sG (gv_op (gv_dget (k := Sum.inr f) (gv_var rfl) (i1 rfl) hf1 hf2) gv_c (rv_ixT g1 rfl)) fun H4 e4 => ?_
    replace sG := sG.same e4
    have nn : (ws.map V.str).isEmpty = false := by cases ws with
      | nil => exact absurd rfl o2
      | cons => rfl
    have okm := oF.ok _ (valD_mem o1)
    refine s_ret sG (gv_eq ?_ (gv_andV (c := true) (gv_eqNil (i2 rfl) h2 (gl_lst ga_nil (by decide))) fun _ => gv_allY (gi_list (emb := V.str) (i2 rfl) h2) (by omega) (fun _ _ => rfl) fun x hx => gv_eq ?_ (gv_andV (b := true) (gv_call (ga_cons (gv_var rfl) ga_nil) (sv_isName (okm.2.2.1 x (o4 x hx)))) fun _ => gv_op (gv_var rfl) (gv_var rfl) (rv_inS g2)))) fun H5 e5 => k H5 ((((e1.trans e2).trans e3).trans e4).trans e5)
    · rw [nn]; rfl
    · simp [o4 x hx]
  | non f =>
    obtain ⟨a', e, h1⟩ := hT
    cases e
    obtain ⟨g, o1, o2⟩ := oT
    have i1 : ∀ {σ : L2.St}, σ[1]? = some (some (.ref a)) → Gv (tOp (rIxT K) (tVar 1) (tC (.int 1))) σ G (.str f) := fun h => gv_op (gv_var h) gv_c (rv_ixT h1 rfl)
    refine q_no sG (gt_test (eqs "is" rfl)) fun H2 e2 => ?_
    replace sG := sG.same e2
    refine q_yes sG (gt_test (eqs "none" rfl)) fun H3 e3 => ?_
    replace sG := sG.same e3
    refine s_ret sG (gv_eq ?_ (gv_andV (b := true) (gv_op (gv_lenT (n := 2) (gv_var rfl) h1 rfl) gv_c (rv_eq rfl)) fun _ => gv_opN2 (gv_call (ga_cons (gv_var rfl) (ga_cons (i1 rfl) ga_nil)) (sv_sortOf hF o1 (nm_of oF o1))) (gu_tup (ga_cons gv_c (ga_cons gv_c ga_nil)) (by decide)) fun q hq => rv_inT upd_same rfl rfl)) fun H5 e5 => k H5 (((e1.trans e2).trans e3).trans e5)
    rcases o2 with o2 | o2 <;> rw [o2] <;> rfl
  | not t =>
    obtain ⟨a', u, e, h1, h2⟩ := hT
    cases e
    have hd' : d + ((t.dep + 1 : Nat) : Int) ≤ 4 := hd
    have hn' : t.dep + 1 < n + 1 := hn
    refine q_no sG (gt_test (eqs "is" rfl)) fun H2 e2 => ?_
    replace sG := sG.same e2
    refine q_no sG (gt_test (eqs "none" rfl)) fun H3 e3 => ?_
    replace sG := sG.same e3
    refine s_ret sG (gv_andV (b := true) (c := true) (eqs "not" rfl) fun _ => gv_andV (b := true) (c := true) (gv_op (gv_lenT (n := 2) (gv_var rfl) h1 rfl) gv_c (rv_eq rfl)) fun _ => gv_andV (b := true) (c := true) (gv_eq ?_ (gv_op (gv_var rfl) gv_c rv_I0)) fun _ => gv_call (ga_cons (gv_var rfl) (ga_cons (gv_op (gv_var rfl) gv_c (rv_ixT h1 rfl)) (ga_cons (gv_op (gv_var rfl) gv_c rv_I0) ga_nil))) (sv_isTest hF oF h2 oT (by omega) (by omega))) fun H5 e5 => k H5 (((e1.trans e2).trans e3).trans e5)
    exact congrArg V.bl (decide_eq_true (by omega))
theorem c_is_test (T : Tx K mg) : Cal P w K mg base 6 "is_test" (spIsTest 3) := c_is_test_all T 3
def spIsTests : Sp := fun vs H Q _ => ∃ a b fs ts G, vs = [.ref a, .ref b] ∧ Sub G H ∧ FsAt G a fs ∧ FsOk fs ∧ TsAt G b ts ∧ TsOk fs ts ∧ ∀ H', Same H H' → Q (.bl true) H'
theorem sv_isTests {G : Hp} {a : Addr} {v : V} {ts : List Tst} {fs : Flds} (h1 : FsAt G a fs) (h2 : FsOk fs) (h3 : TsV v ts G) (h4 : TsOk fs ts) : Sv spIsTests [.ref a, v] G (.bl true) := fun H s Q E q => let ⟨b, e, h3⟩ := h3; ⟨a, b, fs, ts, G, by rw [e], s, h1, h2, h3, h4, q⟩
abbrev N_is_tests : List Str := ["fields", "thing", "test"]
theorem sc_is_tests : FnScope N_is_tests ["fields", "thing"] (defScope s_is_tests) := ⟨rfl, rfl, rfl, by decide +kernel, rfl, by decide +kernel, by decide +kernel⟩
-- slots: 0 fields*, 1 thing, 2 test
theorem c_is_tests (T : Tx K mg) : Cal P w K mg base 7 "is_tests" spIsTests := by
  refine ⟨_, _, ["fields", "thing"], fn_body T.f_is_tests sc_is_tests (fun vs H Q E h => by obtain ⟨_, _, _, _, _, rfl, _⟩ := h; rfl) (fun cdv A outer s H vs Q E hr h => ?_), T.g_is_tests, T.f_is_tests.kp, T.f_is_tests.bindsN fun _ _ _ _ _ _ us hl => match us, hl with | [_, _], _ => rfl⟩
  obtain ⟨a, b, fs, ts, G, rfl, sG, hF, oF, hT, oT, k⟩ := h
  have hu := hu_of hr
  refine ⟨_,
    (pss_one (ps_ret (pe_and (pe_callB (call_isiK rfl) (by rfl) T.b_isinstance (by decide +kernel) (pa_cons (pv 1) (pa_cons (pe_bltn (v := .ty "list") (by rfl) T.b_list (by decide +kernel) rfl) pa_nil))) (pe_one (pe_callB (cr_allK rfl rfl) (by rfl) T.b_all (by decide +kernel) (pa_cons (pe_lc rfl sc_is_tests.nd (pi_listK rfl (pv 1)) (blkOk_by (own := [("test", 2)]) (N := N_is_tests) (sc := defScope s_is_tests) (by decide +kernel)) (fun _ _ _ _ _ => (pg_name (i := 2) sc_is_tests.nd rfl (Or.inl rfl))) (fun _ _ _ _ _ => pts_nil) (fun _ _ _ _ _ => (pe_cal (c_is_test T) hr (by decide) rfl (pa_cons (pv 0) (pa_cons (pv 2) (pa_cons pe_int pa_nil)))))) pa_nil)))))), ?_⟩
  obtain ⟨vs, h1, h2⟩ := hT
  obtain ⟨z1, z2, z3⟩ := h2.zip
  refine s_ret sG (gv_andV (b := true) (c := true) (gv_isiY (gv_var rfl) (ty_lst h1)) fun _ => gv_allY (gi_list (ds := vs.zip ts) (emb := fun q => q.1) (gv_var rfl) (by rw [← z1]; exact h1)) ?_ (fun _ _ => rfl) fun x hx => gv_call (ga_cons (gv_var rfl) (ga_cons (gv_var rfl) (ga_cons gv_c ga_nil))) (sv_isTest (t := x.2) hF oF (z3 x hx) ?_ ?_ ?_)) k
  · rw [List.length_zip]; have := oT.1; omega
  · have := oT.2 x.2 (by rw [z2]; exact List.mem_map.mpr ⟨x, hx, rfl⟩); exact this.1
  · have := oT.2 x.2 (by rw [z2]; exact List.mem_map.mpr ⟨x, hx, rfl⟩); omega
  · have := oT.2 x.2 (by rw [z2]; exact List.mem_map.mpr ⟨x, hx, rfl⟩); omega
/-! ### passes, meets -/
def spPasses (n : Nat) : Sp := fun vs H Q _ => ∃ a v r t G, vs = [.ref a, v] ∧ Sub G H ∧ G a = some (.dK (rowK r)) ∧ TstAt t v G ∧ TstIn r t ∧ t.dep < n ∧ ∀ H', Same H H' → Q (.bl (evT r t)) H'
theorem sv_passes {n : Nat} {G : Hp} {a : Addr} {v : V} {r : Row} {t : Tst} (h1 : G a = some (.dK (rowK r))) (h2 : TstAt t v G) (h3 : TstIn r t) (h4 : t.dep < n) : Sv (spPasses n) [.ref a, v] G (.bl (evT r t)) := fun H s Q E q => ⟨a, v, r, t, G, rfl, s, h1, h2, h3, h4, q⟩
abbrev N_passes : List Str := ["row", "test"]
theorem sc_passes : FnScope N_passes ["row", "test"] (defScope s_passes) := ⟨rfl, rfl, rfl, by decide +kernel, rfl, by decide +kernel, by decide +kernel⟩
-- slots: 0 row, 1 test
--@REC passes
theorem c_passes_all (T : Tx K mg) : ∀ n, Cal P w K mg base (n + 1) "passes" (spPasses n) := by
  intro n
  induction n with
  | zero => exact ⟨_, _, ["row", "test"], fn_body T.f_passes sc_passes (fun vs H Q E h => by obtain ⟨_, _, _, _, _, rfl, _⟩ := h; rfl) (fun cdv A outer s H vs Q E hr h => by obtain ⟨_, _, _, _, _, _, _, _, _, _, h, _⟩ := h; exact absurd h (Nat.not_lt_zero _)), T.g_passes, T.f_passes.kp, T.f_passes.bindsN fun _ _ _ _ _ _ us hl => match us, hl with | [_, _], _ => rfl⟩
  | succ n ih =>
  have c_passes := fun _ : Tx K mg => ih
  refine ⟨_, _, ["row", "test"], fn_body T.f_passes sc_passes (fun vs H Q E h => by obtain ⟨_, _, _, _, _, rfl, _⟩ := h; rfl) (fun cdv A outer s H vs Q E hr h => ?_), T.g_passes, T.f_passes.kp, T.f_passes.bindsN fun _ _ _ _ _ _ us hl => match us, hl with | [_, _], _ => rfl⟩
  obtain ⟨ra, v, r, t, G, rfl, sG, hR, hT, oT, hn, k⟩ := h
  have hu := hu_of hr
  refine ⟨_,
    (pss_cons (ps_if (pt_cmpR op_eq (pe_ix (ix_tupK rfl) (pv 1) pe_int (fun _ _ => rfl)) pe_str (nomark _))
      (pss_one (ps_ret (pe_cmpR (op_in_seqK rfl) (pe_dget hu (pv 0) (pe_ix (ix_tupK rfl) (pv 1) pe_int (fun _ _ => rfl)) (fun _ _ => rfl)) (pe_ix (ix_tupK rfl) (pv 1) pe_int (fun _ _ => rfl)) (by rfl))))
      pss_nil)
    (pss_cons (ps_if (pt_cmpR op_eq (pe_ix (ix_tupK rfl) (pv 1) pe_int (fun _ _ => rfl)) pe_str (nomark _))
      (pss_one (ps_ret (pe_cmpR op_isN (pe_dget hu (pv 0) (pe_ix (ix_tupK rfl) (pv 1) pe_int (fun _ _ => rfl)) (fun _ _ => rfl)) pe_non (nomark _))))
      pss_nil)
    (pss_one (ps_ret (pe_not (pe_cal (c_passes T) hr (by omega) rfl (pa_cons (pv 0) (pa_cons (pe_ix (ix_tupK rfl) (pv 1) pe_int (fun _ _ => rfl)) pa_nil)))))))), ?_⟩
  obtain ⟨a, rr, rfl, ha⟩ := hT.any
  have i0 : ∀ {σ : L2.St}, σ[1]? = some (some (.ref a)) → Gv (tOp (rIxT K) (tVar 1) (tC (.int 0))) σ G (.str t.word) := fun h => gv_op (gv_var h) gv_c (rv_ixT ha (at0 _ _))
  have eqs : ∀ {σ : L2.St} (w : Str), σ[1]? = some (some (.ref a)) → Gv (tOp rEq (tOp (rIxT K) (tVar 1) (tC (.int 0))) (tC (.str w))) σ G (.bl (decide (t.word = w))) := fun w h => gv_eq (by simp) (gv_op (i0 h) gv_c (rv_eq rfl))
  have val : ∀ f, f ∈ r.map (·.1) → ∃ x, valD r f = some x ∧ valV (rowK r) (Sum.inr f) = some (ov x) := fun f hf => by
    obtain ⟨x, e⟩ := valD_in hf
    exact ⟨x, e, by rw [rowK_val, e]; rfl⟩
  cases t with
  | is f ws =>
    obtain ⟨a', l, e, h1, h2⟩ := hT
    cases e
    obtain ⟨x, e1, e2⟩ := val f oT
    refine q_yes sG (gt_test (eqs "is" rfl)) fun H2 s2 => ?_
    replace sG := sG.same s2
    refine s_ret sG (gv_eq ?_ (gv_op (gv_dget (k := Sum.inr f) (gv_var rfl) (gv_op (gv_var rfl) gv_c (rv_ixT h1 rfl)) hR e2) (gv_op (gv_var rfl) gv_c (rv_ixT h1 rfl)) (rv_inSo h2))) fun H5 e5 => k H5 (s2.trans e5)
    show V.bl _ = V.bl (evT r (.is f ws))
    unfold evT
    rw [e1]
    cases x <;> rfl
  | non f =>
    obtain ⟨a', e, h1⟩ := hT
    cases e
    obtain ⟨x, e1, e2⟩ := val f oT
    refine q_no sG (gt_test (eqs "is" rfl)) fun H2 s2 => ?_
    replace sG := sG.same s2
    refine q_yes sG (gt_test (eqs "none" rfl)) fun H3 s3 => ?_
    replace sG := sG.same s3
    refine s_ret sG (gv_eq ?_ (gv_op (gv_dget (k := Sum.inr f) (gv_var rfl) (gv_op (gv_var rfl) gv_c (rv_ixT h1 rfl)) hR e2) gv_c rv_isN)) fun H5 e5 => k H5 ((s2.trans s3).trans e5)
    show V.bl _ = V.bl (evT r (.non f))
    unfold evT
    rw [e1]
    cases x <;> simp [ov]
  | not t =>
    obtain ⟨a', u, e, h1, h2⟩ := hT
    cases e
    have hn' : t.dep + 1 < n + 1 := hn
    refine q_no sG (gt_test (eqs "is" rfl)) fun H2 s2 => ?_
    replace sG := sG.same s2
    refine q_no sG (gt_test (eqs "none" rfl)) fun H3 s3 => ?_
    replace sG := sG.same s3
    exact s_ret sG (gv_notV (gv_call (ga_cons (gv_var rfl) (ga_cons (gv_op (gv_var rfl) gv_c (rv_ixT h1 rfl)) ga_nil)) (sv_passes hR h2 oT (by omega)))) fun H5 e5 => k H5 ((s2.trans s3).trans e5)
theorem c_passes (T : Tx K mg) : Cal P w K mg base 4 "passes" (spPasses 3) := c_passes_all T 3
def TsIn (r : Row) (ts : List Tst) : Prop := ts.length ≤ 2 ∧ ∀ t ∈ ts, TstIn r t ∧ t.dep ≤ 2
def spMeets : Sp := fun vs H Q _ => ∃ a b r ts G, vs = [.ref a, .ref b] ∧ Sub G H ∧ G a = some (.dK (rowK r)) ∧ TsAt G b ts ∧ TsIn r ts ∧ ∀ H', Same H H' → Q (.bl (evTs r ts)) H'
theorem sv_meets {G : Hp} {a : Addr} {v : V} {ts : List Tst} {r : Row} (h1 : G a = some (.dK (rowK r))) (h3 : TsV v ts G) (h4 : TsIn r ts) : Sv spMeets [.ref a, v] G (.bl (evTs r ts)) := fun H s Q E q => let ⟨b, e, h3⟩ := h3; ⟨a, b, r, ts, G, by rw [e], s, h1, h3, h4, q⟩
abbrev N_meets : List Str := ["row", "tests", "test"]
theorem sc_meets : FnScope N_meets ["row", "tests"] (defScope s_meets) := ⟨rfl, rfl, rfl, by decide +kernel, rfl, by decide +kernel, by decide +kernel⟩
-- slots: 0 row*, 1 tests, 2 test
theorem c_meets (T : Tx K mg) : Cal P w K mg base 5 "meets" spMeets := by
  refine ⟨_, _, ["row", "tests"], fn_body T.f_meets sc_meets (fun vs H Q E h => by obtain ⟨_, _, _, _, _, rfl, _⟩ := h; rfl) (fun cdv A outer s H vs Q E hr h => ?_), T.g_meets, T.f_meets.kp, T.f_meets.bindsN fun _ _ _ _ _ _ us hl => match us, hl with | [_, _], _ => rfl⟩
  obtain ⟨a, b, r, ts, G, rfl, sG, hR, hT, oT, k⟩ := h
  have hu := hu_of hr
  refine ⟨_,
    (pss_one (ps_ret (pe_callB (cr_allK rfl rfl) (by rfl) T.b_all (by decide +kernel) (pa_cons (pe_lc rfl sc_meets.nd (pi_listK rfl (pv 1)) (blkOk_by (own := [("test", 2)]) (N := N_meets) (sc := defScope s_meets) (by decide +kernel)) (fun _ _ _ _ _ => (pg_name (i := 2) sc_meets.nd rfl (Or.inl rfl))) (fun _ _ _ _ _ => pts_nil) (fun _ _ _ _ _ => (pe_cal (c_passes T) hr (by decide) rfl (pa_cons (pv 0) (pa_cons (pv 2) pa_nil))))) pa_nil)))), ?_⟩
  obtain ⟨vs, h1, h2⟩ := hT
  obtain ⟨z1, z2, z3⟩ := h2.zip
  refine s_ret sG (gv_eq ?_ (gv_all (bs := (vs.zip ts).map fun q => evT r q.2) (gn_eq ?_ (gl_lc (pf := fun _ => true) (fun q => V.bl (evT r q.2)) (gi_list (ds := vs.zip ts) (emb := fun q => q.1) (gv_var rfl) (by rw [← z1]; exact h1)) ?_ (fun _ _ => rfl) (fun _ _ => gt_yes) fun x hx _ => gv_call (ga_cons (gv_var rfl) (ga_cons (gv_var rfl) ga_nil)) (sv_passes (t := x.2) hR (z3 x hx) ?_ ?_))))) k
  · unfold evTs
    conv => rhs; rw [z2]
    rw [List.all_map, List.all_map]
    rfl
  · rw [List.filter_eq_self.mpr (fun _ _ => rfl), List.map_map]
    rfl
  · rw [List.length_zip]; have := oT.1; omega
  · have := oT.2 x.2 (by rw [z2]; exact List.mem_map.mpr ⟨x, hx, rfl⟩); exact this.1
  · have := oT.2 x.2 (by rw [z2]; exact List.mem_map.mpr ⟨x, hx, rfl⟩); omega
/-! ### copies -/
def spCopT (n : Nat) : Sp := fun vs H Q _ => ∃ v t G, vs = [v] ∧ Sub G H ∧ TstAt t v G ∧ t.dep < n ∧ ∀ v' G' H', Stp G H G' H' → TstAt t v' G' → Q v' H'
theorem sx_copT {n : Nat} {G : Hp} {v : V} {t : Tst} (h : TstAt t v G) (hn : t.dep < n) : Sx (spCopT n) [v] G (TstAt t) := fun H s Q E q => ⟨v, t, G, rfl, s, h, hn, q⟩
abbrev N_copied_test : List Str := ["test"]
theorem sc_copied_test : FnScope N_copied_test ["test"] (defScope s_copied_test) := ⟨rfl, rfl, rfl, by decide +kernel, rfl, by decide +kernel, by decide +kernel⟩
-- slots: 0 test
--@REC copied_test
--@NEVER copied_test | return ('at', test[1], copied_tests(test[2]))
theorem c_copied_test_all (T : Tx K mg) : ∀ n, Cal P w K mg base (n + 1) "copied_test" (spCopT n) := by
  intro n
  induction n with
  | zero => exact ⟨_, _, ["test"], fn_body T.f_copied_test sc_copied_test (fun vs H Q E h => by obtain ⟨_, _, _, rfl, _⟩ := h; rfl) (fun cdv A outer s H vs Q E hr h => by obtain ⟨_, _, _, _, _, _, h, _⟩ := h; exact absurd h (Nat.not_lt_zero _)), T.g_copied_test, T.f_copied_test.kp, T.f_copied_test.bindsN fun _ _ _ _ _ _ us hl => match us, hl with | [_], _ => rfl⟩
  | succ n ih =>
  have c_copied_test := fun _ : Tx K mg => ih
  refine ⟨_, _, ["test"], fn_body T.f_copied_test sc_copied_test (fun vs H Q E h => by obtain ⟨_, _, _, rfl, _⟩ := h; rfl) (fun cdv A outer s H vs Q E hr h => ?_), T.g_copied_test, T.f_copied_test.kp, T.f_copied_test.bindsN fun _ _ _ _ _ _ us hl => match us, hl with | [_], _ => rfl⟩
  obtain ⟨v, t, G, rfl, sG, hT, hn, k⟩ := h
  have hu := hu_of hr
  refine ⟨_,
    (pss_cons (ps_if (pt_cmpR op_eq (pe_ix (ix_tupK rfl) (pv 0) pe_int (fun _ _ => rfl)) pe_str (nomark _))
      (pss_one (ps_ret (pe_tup (pa_cons pe_str (pa_cons (pe_ix (ix_tupK rfl) (pv 0) pe_int (fun _ _ => rfl)) (pa_cons (pe_callTy (call_list_ofK rfl) (by rfl) T.b_list (by decide +kernel) (pa_cons (pe_ix (ix_tupK rfl) (pv 0) pe_int (fun _ _ => rfl)) pa_nil)) pa_nil))))))
      pss_nil)
    (pss_cons (ps_if (pt_cmpR op_eq (pe_ix (ix_tupK rfl) (pv 0) pe_int (fun _ _ => rfl)) pe_str (nomark _))
      (pss_one ps_never)
      pss_nil)
    (pss_one (ps_ret (pe_ifExp (pt_cmpR op_eq (pe_ix (ix_tupK rfl) (pv 0) pe_int (fun _ _ => rfl)) pe_str (nomark _)) (pe_tup (pa_cons pe_str (pa_cons (pe_cal (c_copied_test T) hr (by omega) rfl (pa_cons (pe_ix (ix_tupK rfl) (pv 0) pe_int (fun _ _ => rfl)) pa_nil)) pa_nil))) (pv 0)))))), ?_⟩
  obtain ⟨a, rr, rfl, ha⟩ := hT.any
  have i0 : ∀ {σ : L2.St}, σ[0]? = some (some (.ref a)) → Gv (tOp (rIxT K) (tVar 0) (tC (.int 0))) σ G (.str t.word) := fun h => gv_op (gv_var h) gv_c (rv_ixT ha (at0 _ _))
  have eqs : ∀ {σ : L2.St} (w : Str), σ[0]? = some (some (.ref a)) → Gv (tOp rEq (tOp (rIxT K) (tVar 0) (tC (.int 0))) (tC (.str w))) σ G (.bl (decide (t.word = w))) := fun w h => gv_eq (by simp) (gv_op (i0 h) gv_c (rv_eq rfl))
  cases t with
  | is f ws =>
    obtain ⟨a', l, e, h1, h2⟩ := hT
    cases e
    refine q_yes sG (gt_test (eqs "is" rfl)) fun H2 s2 => ?_
    replace sG := sG.same s2
    refine s_retX sG (ge_tup (gxa_consV gv_c (gxa_consV (v := .str f) (gv_op (gv_var rfl) gv_c (rv_ixT h1 rfl)) (gxa_cons (ge_gn (Φ := fun v' G' => ∃ l', v' = V.ref l' ∧ G' l' = some (sL ws)) (gl_copy (gv_op (gv_var rfl) gv_c (rv_ixT h1 rfl)) h2) fun p hp => ⟨p, rfl, upd_same⟩) fun v' G' e' hv' => gxa_nil ⟨few rfl, fun p hp => ?_⟩)))) fun v' G' H' st f => k v' G' H' (st.pre s2) f
    obtain ⟨l', rfl, hl'⟩ := hv'
    exact ⟨p, l', rfl, upd_same, by rw [upd_ne (ne_of_none hl' hp)]; exact hl'⟩
  | non f =>
    refine q_no sG (gt_test (eqs "is" rfl)) fun H2 s2 => ?_
    replace sG := sG.same s2
    refine q_no sG (gt_test (eqs "at" rfl)) fun H3 s3 => ?_
    replace sG := sG.same s3
    exact s_ret sG (gv_if (b := false) (gt_test (eqs "not" rfl)) (fun z => nomatch z) fun _ => gv_var rfl) fun H4 s4 => k _ G H4 ⟨Same.refl _, sG.same s4, (s2.trans s3).trans s4, fun _ z _ => z⟩ hT
  | not t =>
    obtain ⟨a', u, e, h1, h2⟩ := hT
    cases e
    have hn' : t.dep + 1 < n + 1 := hn
    refine q_no sG (gt_test (eqs "is" rfl)) fun H2 s2 => ?_
    replace sG := sG.same s2
    refine q_no sG (gt_test (eqs "at" rfl)) fun H3 s3 => ?_
    replace sG := sG.same s3
    refine s_retX sG (ge_if (b := true) (gt_test (eqs "not" rfl)) (fun _ => ge_tup (gxa_consV gv_c (gxa_cons (ge_call (ga_cons (gv_op (gv_var rfl) gv_c (rv_ixT h1 rfl)) ga_nil) (sx_copT h2 (by omega))) fun v' G' e' hv' => gxa_nil ⟨few rfl, fun p hp => ?_⟩))) fun z => nomatch z) fun v' G' H' st f => k v' G' H' (st.pre (s2.trans s3)) f
    exact ⟨p, v', rfl, upd_same, tst_mono _ _ _ _ (Same.put hp) hv'⟩
theorem c_copied_test (T : Tx K mg) : Cal P w K mg base 4 "copied_test" (spCopT 3) := c_copied_test_all T 3
end
end K25

/-! F6 -/
namespace K25
open PySem PySem.Spec PyProof.Rows L2
section
variable {P : Program} {w : World} {K : PySem.W.Frag} {mg : Str → Option Value} {base : Heap}
def spCopTs : Sp := fun vs H Q _ => ∃ v ts G, vs = [v] ∧ Sub G H ∧ TsV v ts G ∧ (ts.length ≤ 2 ∧ ∀ t ∈ ts, t.dep ≤ 2) ∧ ∀ v' G' H', Stp G H G' H' → TsV v' ts G' → Q v' H'
theorem sx_copTs {G : Hp} {v : V} {ts : List Tst} (h : TsV v ts G) (hn : ts.length ≤ 2 ∧ ∀ t ∈ ts, t.dep ≤ 2) : Sx spCopTs [v] G fun v' G' => TsV v' ts G' := fun H s Q E q => ⟨v, ts, G, rfl, s, h, hn, q⟩
theorem all2_zipmap {α β γ : Type} {R : γ → β → Prop} {l : List α} {m : List γ} {f : α → β} (h : All2 (fun d v => R v (f d)) l m) : All2 R m (l.map f) := by
  induction h with
  | nil => exact .nil
  | cons r _ ih => exact .cons r ih
abbrev N_copied_tests : List Str := ["tests", "test"]
theorem sc_copied_tests : FnScope N_copied_tests ["tests"] (defScope s_copied_tests) := ⟨rfl, rfl, rfl, by decide +kernel, rfl, by decide +kernel, by decide +kernel⟩
-- slots: 0 tests, 1 test
theorem c_copied_tests (T : Tx K mg) : Cal P w K mg base 5 "copied_tests" spCopTs := by
  refine ⟨_, _, ["tests"], fn_body T.f_copied_tests sc_copied_tests (fun vs H Q E h => by obtain ⟨_, _, _, rfl, _⟩ := h; rfl) (fun cdv A outer s H vs Q E hr h => ?_), T.g_copied_tests, T.f_copied_tests.kp, T.f_copied_tests.bindsN fun _ _ _ _ _ _ us hl => match us, hl with | [_], _ => rfl⟩
  obtain ⟨v, ts, G, rfl, sG, ⟨a, rfl, vs, h1, h2⟩, ⟨o1, o2⟩, k⟩ := h
  have hu := hu_of hr
  refine ⟨_,
    (pss_one (ps_ret (pe_lc rfl sc_copied_tests.nd (pi_listK rfl (pv 0)) (blkOk_by (own := [("test", 1)]) (N := N_copied_tests) (sc := defScope s_copied_tests) (by decide +kernel)) (fun _ _ _ _ _ => (pg_name (i := 1) sc_copied_tests.nd rfl (Or.inl rfl))) (fun _ _ _ _ _ => pts_nil) (fun _ _ _ _ _ => (pe_cal (c_copied_test T) hr (by decide) rfl (pa_cons (pv 1) pa_nil)))))), ?_⟩
  obtain ⟨z1, z2, z3⟩ := h2.zip
  refine s_retX sG (ge_gm (gm_lc (pf := fun _ => true) (ds := vs.zip ts) (up := upN 1 fun q => q.1) (fun (q : V × Tst) v' G' => TstV v' q.2 G') (fun d v G1 G2 e r => tst_mono _ _ _ _ e r) (gi_list (ds := vs.zip ts) (emb := fun q => q.1) (gv_var rfl) (by rw [← z1]; exact h1)) ?_ (fun _ _ => rfl) (fun d hd G' e => gt_yes) (fun d hd _ G' e => ge_call (ga_cons (gv_var rfl) ga_nil) (sx_copT (t := d.2) (tst_mono _ _ _ _ e (z3 d hd)) ?_)) fun _ _ _ _ => trivial) fun p o G' e gp hx => ?_) k
  · rw [List.length_zip]; omega
  · have := o2 d.2 (by rw [z2]; exact List.mem_map.mpr ⟨d, hd, rfl⟩); omega
  · obtain ⟨xs, rfl, al⟩ := hx
    rw [List.filter_eq_self.mpr (fun _ _ => rfl)] at al
    refine ⟨p, rfl, xs, upd_same, ?_⟩
    have := all2_zipmap (R := fun v t => TstV v t G') (f := fun q : V × Tst => q.2) al
    rw [← z2] at this
    exact this.imp fun _ _ _ _ r => tst_mono _ _ _ _ (Same.put gp) r
/-! ### tables -/
def spAreTables : Sp := fun vs H Q _ => ∃ a tb G, vs = [.ref a] ∧ Sub G H ∧ TbsAt G a tb ∧ TbsOk tb ∧ ∀ H', Same H H' → Q (.bl true) H'
theorem sv_areTables {G : Hp} {a : Addr} {tb : Tbs} (h : TbsAt G a tb) (ok : TbsOk tb) : Sv spAreTables [.ref a] G (.bl true) := fun H s Q E q => ⟨a, tb, G, rfl, s, h, ok, q⟩
/-- the pairs of the fields of a table -/
def kvOf (G : Hp) (a : Addr) : List (Key × V) := match G a with
  | some (.dK kvs) => kvs
  | _ => []
theorem kvOf_eq {G : Hp} {a : Addr} {kvs : List (Key × V)} (h : G a = some (.dK kvs)) : kvOf G a = kvs := by unfold kvOf; rw [h]
def adOf (v : V) : Addr := match v with
  | .ref a => a
  | _ => 0
/-- what stands at a text -/
def atD (kvs : List (Key × V)) (k : Str) : V := (valV kvs (Sum.inr k)).getD .non
theorem fsV_kv {G : Hp} {v : V} {fs : Flds} (h : FsV v fs G) : v = .ref (adOf v) ∧ G (adOf v) = some (.dK (kvOf G (adOf v))) ∧ PrD FldAt G (kvOf G (adOf v)) fs := by
  obtain ⟨a, rfl, kvs, h1, h2⟩ := h
  have e : kvOf G (adOf (.ref a)) = kvs := kvOf_eq h1
  rw [e]
  exact ⟨rfl, h1, h2⟩
theorem PrD.at_ {α : Type} {R : RelD α} {G : Hp} {kvs : List (Key × V)} {l : List (Str × α)} (h : PrD R G kvs l) {k : Str} {x : α} (e : valD l k = Option.some x) : valV kvs (Sum.inr k) = Option.some (atD kvs k) ∧ R (atD kvs k) x G := by
  obtain ⟨v, e1, r⟩ := (h.get k).1 x e
  have : atD kvs k = v := by unfold atD; rw [e1]; rfl
  rw [this]
  exact ⟨e1, r⟩
def PreL (L : List (Addr × List (Key × V))) (H : Hp) : Prop := ∀ p ∈ L, Lk p.1 p.2 H
theorem preL_same {L : List (Addr × List (Key × V))} (H H' : Hp) (e : Same H H') (h : PreL L H) : PreL L H' := fun p hp => Same.lk e (h p hp)
theorem preL_upd {L : List (Addr × List (Key × V))} (H : Hp) (p : Addr) (xs ys : List V) (hp : H p = some (.lst xs)) (h : PreL L H) : PreL L (upd H p (.lst ys)) := fun q hq => by
  obtain ⟨ob, e⟩ := h q hq
  refine ⟨ob, ?_⟩
  have ne : q.1 ≠ p := fun z => by rw [z, hp] at e; cases e
  rw [upd_ne ne]
  exact e
theorem lks_of {L : List (Addr × List (Key × V))} {d : Addr} {kvs : List (Key × V)} (h : (d, kvs) ∈ L) : Lks (PreL L) d kvs := ⟨fun H hp => hp (d, kvs) h⟩
abbrev N_are_tables : List Str := ["thing", "name", "links", "field"]
theorem sc_are_tables : FnScope N_are_tables ["thing"] (defScope s_are_tables) := ⟨rfl, rfl, rfl, by decide +kernel, rfl, by decide +kernel, by decide +kernel⟩
-- slots: 0 thing*, 1 name, 2 links, 3 field
theorem c_are_tables (T : Tx K mg) : Cal P w K mg base 4 "are_tables" spAreTables := by
  refine ⟨_, _, ["thing"], fn_body T.f_are_tables sc_are_tables (fun vs H Q E h => by obtain ⟨_, _, _, rfl, _⟩ := h; rfl) (fun cdv A outer s H vs Q E hr h => ?_), T.g_are_tables, T.f_are_tables.kp, T.f_are_tables.bindsN fun _ _ _ _ _ _ us hl => match us, hl with | [_], _ => rfl⟩
  obtain ⟨a, tb, G, rfl, sG, ⟨kvs, h1, h2⟩, ok, k⟩ := h
  have hu := hu_of hr
  refine ⟨_,
    (pss_cons (ps_if (PW.pt (pw_or (pt_not (pt_val (pe_callB (call_isiK rfl) (by rfl) T.b_isinstance (by decide +kernel) (pa_cons (pv 0) (pa_cons (pe_bltn (v := .ty "dict") (by rfl) T.b_dict (by decide +kernel) rfl) pa_nil))))) (pw_or1 (pt_not (pt_chain op_le op_le pe_int (pe_callB call_lenR (by rfl) T.b_len (by decide +kernel) (pa_cons (pv 0) pa_nil)) pe_int)))))
      (pss_one (ps_ret pe_bl))
      pss_nil)
    (pss_cons (ps_if (pt_not (pt_val (pe_callB (cr_allK rfl rfl) (by rfl) T.b_all (by decide +kernel) (pa_cons (pe_lk (pe_lc rfl sc_are_tables.nd (pi_keys (pv 0)) (blkOk_by (own := [("name", 1)]) (N := N_are_tables) (sc := defScope s_are_tables) (by decide +kernel)) (fun _ _ _ _ _ => (pg_name (i := 1) sc_are_tables.nd rfl (Or.inl rfl))) (fun _ _ _ _ _ => pts_nil) (fun _ _ _ _ _ => (pe_and (pe_cal (c_is_name T) hr (by decide) rfl (pa_cons (pv 1) pa_nil)) (pe_one (pe_cal (c_fields_of T) hr (by decide) rfl (pa_cons (pe_dget hu (pv 0) (pv 1) (fun _ _ => rfl)) pa_nil))))))) pa_nil))))
      (pss_one (ps_ret pe_bl))
      pss_nil)
    (pss_cons (ps_asgLks (ps_setLc2 (i := 2) (vs1 := [3]) rfl sc_are_tables.nd rfl rfl (sw_true rfl rfl rfl (by decide +kernel)) (pi_keys (pv 0)) (blkOk_by (own := [("name", 1), ("field", 3)]) (N := N_are_tables) (sc := defScope s_are_tables) (by decide +kernel)) (by decide) (fun _ _ _ _ _ => (pg_name (i := 1) sc_are_tables.nd rfl (Or.inl rfl))) (fun _ _ _ _ _ => pts_nil) (fun _ _ _ _ _ => (pi_values (pe_dget hu (pv 0) (pv 1) (fun _ _ => rfl)))) (fun _ _ _ _ _ => (pg_name (i := 3) sc_are_tables.nd rfl (Or.inl rfl))) (fun _ _ _ _ _ => (pts_one (pt_cmpR op_eq (pe_ix (ix_tupK rfl) (pv 3) pe_int (fun _ _ => rfl)) pe_str (nomark _)))) (fun _ _ _ _ _ => (pv 3))))
    (pss_one (ps_ret (pe_callB (cr_allK rfl rfl) (by rfl) T.b_all (by decide +kernel) (pa_cons (pe_lc rfl sc_are_tables.nd (pi_listK rfl (pv 2)) (blkOk_by (own := [("field", 3)]) (N := N_are_tables) (sc := defScope s_are_tables) (by decide +kernel)) (fun _ _ _ _ _ => (pg_name (i := 3) sc_are_tables.nd rfl (Or.inl rfl))) (fun _ _ _ _ _ => pts_nil) (fun _ _ _ _ _ => (pe_cmp (pc_din hu (pe_ix (ix_tupK rfl) (pv 3) pe_int (fun _ _ => rfl)) (pv 0))))) pa_nil))))))), ?_⟩
  have hi := ok.hi
  have lo := ok.lo
  refine q_no sG (gt_eq ?_ (gt_or (gt_not (gt_B (gv_isiY (gv_var rfl) (ty_dK h1)))) fun _ => gt_not (gt_test (gv_chain gv_c (gv_lenD (n := tb.length) (gv_var rfl) h1 (by rw [h2.length])) rv_I0 (fun _ => gv_c) fun _ => rv_I0)))) fun H1 e1 => ?_
  · simp; omega
  replace sG := sG.same e1
  have fd : ∀ d ∈ tb, valV kvs (Sum.inr d.1) = some (atD kvs d.1) ∧ FsV (atD kvs d.1) d.2 G := fun d hd => h2.at_ (valD_of ok.nd hd)
  refine q_no sG (gt_not (gt_B (gv_allYK h1 (gi_keysD (gv_var rfl) h2) (by omega) (fun _ _ => rfl) fun d hd => gv_andV (b := true) (c := true) (gv_call (ga_cons (gv_var rfl) ga_nil) (sv_isName (ok.nm d hd))) fun _ => gv_call (ga_cons (gv_dget (k := Sum.inr d.1) (gv_var rfl) (gv_var rfl) h1 (fd d hd).1) ga_nil) ?_))) fun H2 e2 => ?_
  · obtain ⟨e, _⟩ := fsV_kv (fd d hd).2
    have := (fd d hd).2
    obtain ⟨b, eb, hb⟩ := this
    rw [eb]
    exact sv_fieldsOf hb (ok.ok d hd)
  replace sG := sG.same e2
  let es : (Str × Flds) → List ((Key × V) × (Str × Fld)) := fun d => (kvOf G (adOf (atD kvs d.1))).zip d.2
  let pf : (Str × Flds) → ((Key × V) × (Str × Fld)) → Bool := fun _ e => decide (e.2.2.sort = "link")
  let L : List (Addr × List (Key × V)) := (a, kvs) :: tb.map fun d => (adOf (atD kvs d.1), kvOf G (adOf (atD kvs d.1)))
  haveI : Lks (PreL L) a kvs := lks_of List.mem_cons_self
  have lkd : ∀ d ∈ tb, Lks (PreL L) (adOf (atD kvs d.1)) (kvOf G (adOf (atD kvs d.1))) := fun d hd => lks_of (List.mem_cons_of_mem _ (List.mem_map.mpr ⟨d, hd, rfl⟩))
  have hz : (tb.flatMap fun d => (es d).filter (pf d)).length ≤ 18 := by
    rw [List.length_flatMap]
    have : ∀ l : Tbs, (∀ d ∈ l, d ∈ tb) → (l.map fun d => ((es d).filter (pf d)).length).sum ≤ 6 * l.length := by
      intro l
      induction l with
      | nil => intro _; simp
      | cons d l ih =>
        intro hl
        have h6 : ((es d).filter (pf d)).length ≤ 6 := by
          have := List.length_filter_le (pf d) (es d)
          have hd := hl d List.mem_cons_self
          have q := (fsV_kv (fd d hd).2).2.2.zipl
          have := (ok.ok d hd).len
          show ((es d).filter (pf d)).length ≤ 6
          have : (es d).length = d.2.length := q
          omega
        have := ih fun x hx => hl x (List.mem_cons_of_mem _ hx)
        simp only [List.map_cons, List.sum_cons, List.length_cons]
        omega
    have := this tb fun _ h => h
    omega
  have hfm : tb.flatMap (fl2 es pf fun _ e => e.1.2) = (tb.flatMap fun d => (es d).filter (pf d)).map fun e => e.1.2 := by
    rw [List.map_flatMap]
    rfl
  refine q_setN sG (Gm.gn (gm_lks L (by simp [L]; omega) (fun p hp => ?_) (gm_lc2V (δ := Str × Flds) (ε := (Key × V) × (Str × Fld)) (Pre := PreL L) (es := es) (pf := pf) (ds := tb) (up := upN 1 fun x => .str x.1) (up1 := fun _ => upN 3 fun q => q.1.2) (fun _ e => e.1.2) (gi_keysD (gv_var rfl) h2) (fun d hd => ?_) ?_ (fun _ _ => rfl) (fun _ _ _ _ => rfl) (fun d hd e he => ?_) (fun d hd e he _ => gv_var rfl) preL_same preL_upd))) fun p H3 e3 hp h3 => ?_
  · rcases List.mem_cons.mp hp with rfl | hp
    · exact h1
    · obtain ⟨d, hd, rfl⟩ := List.mem_map.mp hp
      exact (fsV_kv (fd d hd).2).2.1
  · haveI := lkd d hd
    obtain ⟨eq, g1, g2⟩ := fsV_kv (fd d hd).2
    exact gi_valsD (gv_eq eq (gv_dget (k := Sum.inr d.1) (gv_var rfl) (gv_var rfl) h1 (fd d hd).1)) g2
  · rw [hfm, List.length_map]
    omega
  · obtain ⟨eq, g1, g2⟩ := fsV_kv (fd d hd).2
    have m := g2.both.2.2 e he
    obtain ⟨b, r, eb, hb⟩ := m.2.2.2.any
    exact gt_eq (by simp [pf]) (gt_test (gv_op (gv_op (gv_eq eb (gv_var rfl)) gv_c (rv_ixT hb (at0 _ _))) gv_c (rv_eq rfl)))
  rw [hfm] at h3
  refine s_ret (Sub.put (sG.same e3) h3) (gv_allY (gi_list (ds := tb.flatMap fun d => (es d).filter (pf d)) (emb := fun e => e.1.2) (gv_var rfl) upd_same) (by omega) (fun _ _ => rfl) fun e he => ?_) fun H4 e4 => k H4 (((e1.trans e2).trans e3).trans e4)
  obtain ⟨d, hd, he⟩ := List.mem_flatMap.mp he
  obtain ⟨he, hp1⟩ := List.mem_filter.mp he
  obtain ⟨eq, g1, g2⟩ := fsV_kv (fd d hd).2
  have m := g2.both.2.2 e he
  obtain ⟨⟨kk, v⟩, f, fl⟩ := e
  cases fl with
  | link u =>
    obtain ⟨b, eb, hb⟩ := m.2.2.2
    have hu := ok.lk d hd (f, .link u) m.2.1 u rfl
    obtain ⟨x, ex⟩ := valD_in hu
    have nb : ∀ {c o}, G c = some o → upd G p (.lst ((tb.flatMap fun d => (es d).filter (pf d)).map fun e => e.1.2)) c = some o := fun h => Same.put (sG.non hp) _ _ h
    exact gv_eq (by rw [(h2.at_ ex).1]; rfl) (gv_din (k := Sum.inr u) (gv_op (gv_eq eb (gv_var rfl)) gv_c (rv_ixT (nb hb) rfl)) (gv_var rfl) (nb h1))
  | mark ws => exact absurd (show (("mark" : Str) = "link") from of_decide_eq_true hp1) (by decide)
  | tag => exact absurd (show (("tag" : Str) = "link") from of_decide_eq_true hp1) (by decide)
end
end K25

/-! F7 -/
namespace K25
open PySem PySem.Spec PyProof.Rows L2
theorem TbsOk.fs {tb : Tbs} (ok : TbsOk tb) {t : Str} {fs : Flds} (h : valD tb t = some fs) : FsOk fs ∧ Nm t := ⟨ok.ok _ (valD_mem h), ok.nm _ (valD_mem h)⟩
section
variable {P : Program} {w : World} {K : PySem.W.Frag} {mg : Str → Option Value} {base : Heap}
def spHasField : Sp := fun vs H Q _ => ∃ a t f so tb fs g G, vs = [.ref a, .str t, .str f, .str so] ∧ Sub G H ∧ TbsAt G a tb ∧ TbsOk tb ∧ valD tb t = some fs ∧ valD fs f = some g ∧ g.sort = so ∧ ∀ H', Same H H' → Q (.bl true) H'
theorem sv_hasField {G : Hp} {a : Addr} {t f so : Str} {tb : Tbs} {fs : Flds} {g : Fld} (h1 : TbsAt G a tb) (h2 : TbsOk tb) (h3 : valD tb t = some fs) (h4 : valD fs f = some g) (h5 : g.sort = so) : Sv spHasField [.ref a, .str t, .str f, .str so] G (.bl true) := fun H s Q E q => ⟨a, t, f, so, tb, fs, g, G, rfl, s, h1, h2, h3, h4, h5, q⟩
abbrev N_has_field : List Str := ["tables", "table", "field", "sort"]
theorem sc_has_field : FnScope N_has_field ["tables", "table", "field", "sort"] (defScope s_has_field) := ⟨rfl, rfl, rfl, by decide +kernel, rfl, by decide +kernel, by decide +kernel⟩
-- slots: 0 tables, 1 table, 2 field, 3 sort
theorem c_has_field (T : Tx K mg) : Cal P w K mg base 2 "has_field" spHasField := by
  refine ⟨_, _, ["tables", "table", "field", "sort"], fn_body T.f_has_field sc_has_field (fun vs H Q E h => by obtain ⟨_, _, _, _, _, _, _, _, rfl, _⟩ := h; rfl) (fun cdv A outer s H vs Q E hr h => ?_), T.g_has_field, T.f_has_field.kp, T.f_has_field.bindsN fun _ _ _ _ _ _ us hl => match us, hl with | [_, _, _, _], _ => rfl⟩
  obtain ⟨a, t, f, so, tb, fs, g, G, rfl, sG, hT, oT, e1, e2, e3, k⟩ := h
  have hu := hu_of hr
  refine ⟨_,
    (pss_cons (ps_if (PW.pt (pw_or (pt_not (pt_val (pe_cal (c_is_name T) hr (by decide) rfl (pa_cons (pv 1) pa_nil)))) (pw_or (pt_cmp (pc_dnotin hu (pv 1) (pv 0))) (pw_or1 (pt_not (pt_val (pe_cal (c_is_name T) hr (by decide) rfl (pa_cons (pv 2) pa_nil))))))))
      (pss_one (ps_ret pe_bl))
      pss_nil)
    (pss_one (ps_ret (pe_and (pe_cmp (pc_din hu (pv 2) (pe_dget hu (pv 0) (pv 1) (fun _ _ => rfl)))) (pe_one (pe_cmpR op_eq (pe_ix (ix_tupK rfl) (pe_dget hu (pe_dget hu (pv 0) (pv 1) (fun _ _ => rfl)) (pv 2) (fun _ _ => rfl)) pe_int (fun _ _ => rfl)) (pv 3) (nomark _))))))), ?_⟩
  obtain ⟨kvs, v, h1, h2, b, rfl, h3⟩ := hT.get e1
  obtain ⟨kvs2, v2, g1, g2, g3⟩ := h3.get e2
  obtain ⟨c, r, rfl, hc⟩ := g3.any
  have nt := (oT.fs e1).2
  have nf := nm_of (oT.fs e1).1 e2
  have td : ∀ {σ : L2.St}, σ[0]? = some (some (.ref a)) → σ[1]? = some (some (.str t)) → Gv (tDGet (tVar 0) (tVar 1)) σ G (.ref b) := fun h h' => gv_dget (k := Sum.inr t) (gv_var h) (gv_var h') h1 h2
  refine q_no sG (gt_eq ?_ (gt_or (gt_not (gt_test (gv_call (ga_cons (gv_var rfl) ga_nil) (sv_isName nt)))) fun _ => gt_or (gt_test (gv_dnotin (k := Sum.inr t) (gv_var rfl) (gv_var rfl) h1)) fun _ => gt_not (gt_test (gv_call (ga_cons (gv_var rfl) ga_nil) (sv_isName nf))))) fun H1 s1 => ?_
  · rw [h2]; rfl
  replace sG := sG.same s1
  refine s_ret sG (gv_eq ?_ (gv_andV (b := true) (gv_eq ?_ (gv_din (k := Sum.inr f) (gv_var rfl) (td rfl rfl) g1)) fun _ => gv_op (gv_op (gv_dget (k := Sum.inr f) (td rfl rfl) (gv_var rfl) g1 g2) gv_c (rv_ixT hc (at0 _ _))) (gv_var rfl) (rv_eq rfl))) fun H2 s2 => k H2 (s1.trans s2)
  · simp [e3]
  · rw [g2]; rfl
def spIsRule : Sp := fun vs H Q _ => ∃ a v tb r G, vs = [.ref a, v] ∧ Sub G H ∧ TbsAt G a tb ∧ TbsOk tb ∧ RulV v r G ∧ RulOk tb r ∧ Nm r.name ∧ ∀ H', Same H H' → Q (.bl true) H'
theorem sv_isRule {G : Hp} {a : Addr} {v : V} {tb : Tbs} {r : Rul} (h1 : TbsAt G a tb) (h2 : TbsOk tb) (h3 : RulV v r G) (h4 : RulOk tb r) (h5 : Nm r.name) : Sv spIsRule [.ref a, v] G (.bl true) := fun H s Q E q => ⟨a, v, tb, r, G, rfl, s, h1, h2, h3, h4, h5, q⟩
theorem RulOk.tab {tb : Tbs} {r : Rul} (h : RulOk tb r) : ∃ fs, valD tb r.tab = some fs := by
  cases r with
  | link n t f ts th => obtain ⟨fs, u, gs, h1, _⟩ := h; exact ⟨fs, h1⟩
  | uniq n t f => obtain ⟨fs, h1, _⟩ := h; exact ⟨fs, h1⟩
  | some n t ts => obtain ⟨fs, h1, _⟩ := h; exact ⟨fs, h1⟩
  | check n t ts => obtain ⟨fs, h1, _⟩ := h; exact ⟨fs, h1⟩
abbrev N_is_rule : List Str := ["tables", "thing", "word", "table", "there"]
theorem sc_is_rule : FnScope N_is_rule ["tables", "thing"] (defScope s_is_rule) := ⟨rfl, rfl, rfl, by decide +kernel, rfl, by decide +kernel, by decide +kernel⟩
-- slots: 0 tables, 1 thing, 2 word, 3 table, 4 there
theorem c_is_rule (T : Tx K mg) : Cal P w K mg base 8 "is_rule" spIsRule := by
  refine ⟨_, _, ["tables", "thing"], fn_body T.f_is_rule sc_is_rule (fun vs H Q E h => by obtain ⟨_, _, _, _, _, rfl, _⟩ := h; rfl) (fun cdv A outer s H vs Q E hr h => ?_), T.g_is_rule, T.f_is_rule.kp, T.f_is_rule.bindsN fun _ _ _ _ _ _ us hl => match us, hl with | [_, _], _ => rfl⟩
  obtain ⟨a, v, tb, r, G, rfl, sG, hT, oT, hR, oR, nR, k⟩ := h
  have hu := hu_of hr
  refine ⟨_,
    (pss_cons (ps_if (PW.pt (pw_or (pt_not (pt_val (pe_callB (call_isiK rfl) (by rfl) T.b_isinstance (by decide +kernel) (pa_cons (pv 1) (pa_cons (pe_bltn (v := .ty "tuple") (by rfl) T.b_tuple (by decide +kernel) rfl) pa_nil))))) (pw_or (pt_cmpR op_lt (pe_callB (call_len_seqK rfl) (by rfl) T.b_len (by decide +kernel) (pa_cons (pv 1) pa_nil)) pe_int (nomark _)) (pw_or1 (pt_not (pt_val (pe_cal (c_is_name T) hr (by decide) rfl (pa_cons (pe_ix (ix_tupK rfl) (pv 1) pe_int (fun _ _ => rfl)) pa_nil))))))))
      (pss_one (ps_ret pe_bl))
      pss_nil)
    (pss_cons (ps_par (i := 2) (j := 3) (by rfl) sc_is_rule.nd rfl rfl (by decide) rfl rfl (pa_cons (pe_ix (ix_tupK rfl) (pv 1) pe_int (fun _ _ => rfl)) (pa_cons (pe_ix (ix_tupK rfl) (pv 1) pe_int (fun _ _ => rfl)) pa_nil)) (by rfl))
    (pss_cons (ps_if (PW.pt (pw_or (pt_not (pt_val (pe_callB (call_isiK rfl) (by rfl) T.b_isinstance (by decide +kernel) (pa_cons (pv 2) (pa_cons (pe_bltn (v := .ty "str") (by rfl) T.b_str (by decide +kernel) rfl) pa_nil))))) (pw_or (pt_not (pt_val (pe_cal (c_is_name T) hr (by decide) rfl (pa_cons (pv 3) pa_nil)))) (pw_or1 (pt_cmp (pc_dnotin hu (pv 3) (pv 0)))))))
      (pss_one (ps_ret pe_bl))
      pss_nil)
    (pss_cons (ps_if (pt_cmpR (op_in_seqK rfl) (pv 2) (pe_tup (pa_cons pe_str (pa_cons pe_str pa_nil))) (by rfl))
      (pss_one (ps_ret (pe_and (pe_cmpR op_eq (pe_callB (call_len_seqK rfl) (by rfl) T.b_len (by decide +kernel) (pa_cons (pv 1) pa_nil)) pe_int (nomark _)) (pe_one (pe_cal (c_is_tests T) hr (by decide) rfl (pa_cons (pe_dget hu (pv 0) (pv 3) (fun _ _ => rfl)) (pa_cons (pe_ix (ix_tupK rfl) (pv 1) pe_int (fun _ _ => rfl)) pa_nil)))))))
      pss_nil)
    (pss_cons (ps_if (pt_cmpR op_eq (pv 2) pe_str (nomark _))
      (pss_one (ps_ret (pe_and (pe_cmpR op_eq (pe_callB (call_len_seqK rfl) (by rfl) T.b_len (by decide +kernel) (pa_cons (pv 1) pa_nil)) pe_int (nomark _)) (pe_one (pe_cal (c_has_field T) hr (by decide) rfl (pa_cons (pv 0) (pa_cons (pv 3) (pa_cons (pe_ix (ix_tupK rfl) (pv 1) pe_int (fun _ _ => rfl)) (pa_cons pe_str pa_nil)))))))))
      pss_nil)
    (pss_cons (ps_if (PW.pt (pw_or (pt_cmpR op_ne (pv 2) pe_str (nomark _)) (pw_or (pt_cmpR op_ne (pe_callB (call_len_seqK rfl) (by rfl) T.b_len (by decide +kernel) (pa_cons (pv 1) pa_nil)) pe_int (nomark _)) (pw_or1 (pt_not (pt_val (pe_cal (c_has_field T) hr (by decide) rfl (pa_cons (pv 0) (pa_cons (pv 3) (pa_cons (pe_ix (ix_tupK rfl) (pv 1) pe_int (fun _ _ => rfl)) (pa_cons pe_str pa_nil)))))))))))
      (pss_one (ps_ret pe_bl))
      pss_nil)
    (pss_cons (ps_set (i := 4) sc_is_rule.nd rfl (Or.inl rfl) (pe_dget hu (pv 0) (pe_ix (ix_tupK rfl) (pe_dget hu (pe_dget hu (pv 0) (pv 3) (fun _ _ => rfl)) (pe_ix (ix_tupK rfl) (pv 1) pe_int (fun _ _ => rfl)) (fun _ _ => rfl)) pe_int (fun _ _ => rfl)) (fun _ _ => rfl)))
    (pss_one (ps_ret (pe_and (pe_cal (c_is_tests T) hr (by decide) rfl (pa_cons (pe_dget hu (pv 0) (pv 3) (fun _ _ => rfl)) (pa_cons (pe_ix (ix_tupK rfl) (pv 1) pe_int (fun _ _ => rfl)) pa_nil))) (pe_one (pe_cal (c_is_tests T) hr (by decide) rfl (pa_cons (pv 4) (pa_cons (pe_ix (ix_tupK rfl) (pv 1) pe_int (fun _ _ => rfl)) pa_nil)))))))))))))), ?_⟩
  obtain ⟨p, x, xs, rfl, hp⟩ := hR.any
  obtain ⟨fs, e1⟩ := oR.tab
  obtain ⟨kvs, v1, h1, h2, b, rfl, h3⟩ := hT.get e1
  have nt := (oT.fs e1).2
  have oF := (oT.fs e1).1
  have ix : ∀ {σ : L2.St} (i : Nat) {y : V}, (V.str r.name :: V.str r.kind :: V.str r.tab :: x :: xs)[i]? = some y → σ[1]? = some (some (.ref p)) → Gv (tOp (rIxT K) (tVar 1) (tC (.int (i : Nat)))) σ G y := fun i y hy h => gv_op (gv_var h) gv_c (rv_ixT hp (atN hy))
  have ln : ∀ {σ : L2.St}, σ[1]? = some (some (.ref p)) → Gv (tCB (fun xs H Q => ∃ p ys, xs = [.ref p] ∧ (SqL K H p ys ∨ SqT K H p ys) ∧ Q (.int ys.length) H) (tCons (tVar 1) tNil)) σ G (.int ((xs.length + 4 : Nat) : Int)) := fun h => gv_lenT (gv_var h) hp (by simp; omega)
  refine q_no sG (gt_eq ?_ (gt_or (gt_not (gt_B (gv_isiY (gv_var rfl) (ty_tup hp)))) fun _ => gt_or (gt_test (gv_op (ln rfl) gv_c rv_I0)) fun _ => gt_not (gt_test (gv_call (ga_cons (ix 0 rfl rfl) ga_nil) (sv_isName nR))))) fun H1 s1 => ?_
  · simp; omega
  replace sG := sG.same s1
  refine q_par sG (ga_cons (ix 1 rfl rfl) (ga_cons (ix 2 rfl rfl) ga_nil)) fun H2 s2 => ?_
  replace sG := sG.same s2
  refine q_no sG (gt_eq ?_ (gt_or (gt_not (gt_B (gv_isiY (gv_var rfl) ty_str))) fun _ => gt_or (gt_not (gt_test (gv_call (ga_cons (gv_var rfl) ga_nil) (sv_isName nt)))) fun _ => gt_test (gv_dnotin (k := Sum.inr r.tab) (gv_var rfl) (gv_var rfl) h1))) fun H3 s3 => ?_
  · rw [h2]; rfl
  replace sG := sG.same s3
  have e123 := (s1.trans s2).trans s3
  have inCS : Gt (tTest (tOp (rIn K false) (tVar 2) (tTup (tCons (tC (.str "check")) (tCons (tC (.str "some")) tNil))))) [some (.ref a), some (.ref p), some (.str r.kind), some (.str r.tab), none] G (inV (.str r.kind) [.str "check", .str "some"]) := gt_test (gv_opN2 (gv_var rfl) (gu_tup (ga_cons gv_c (ga_cons gv_c ga_nil)) (by decide)) fun q hq => rv_inT upd_same rfl rfl)
  have eqK : ∀ s : Str, Gt (tTest (tOp rEq (tVar 2) (tC (.str s)))) [some (.ref a), some (.ref p), some (.str r.kind), some (.str r.tab), none] G (decide (r.kind = s)) := fun s => gt_test (gv_eq (by simp) (gv_op (gv_var rfl) gv_c (rv_eq rfl)))
  have td : ∀ {σ : L2.St}, σ[0]? = some (some (.ref a)) → σ[3]? = some (some (.str r.tab)) → Gv (tDGet (tVar 0) (tVar 3)) σ G (.ref b) := fun h h' => gv_dget (k := Sum.inr r.tab) (gv_var h) (gv_var h') h1 h2
  have four : ∀ (D : Ends) (H4 : Hp) ts u, D.rt = Q → Same H H4 → Sub G H4 → TsV u ts G → TsOk fs ts → xs.length = 0 → x = u → tRet (tAndV (tOp rEq (tCB (fun xs H Q => ∃ p ys, xs = [.ref p] ∧ (SqL K H p ys ∨ SqT K H p ys) ∧ Q (.int ys.length) H) (tCons (tVar 1) tNil)) (tC (.int 4))) (tCall spIsTests [] E0 (tCons (tDGet (tVar 0) (tVar 3)) (tCons (tOp (rIxT K) (tVar 1) (tC (.int 3))) tNil)))) D [some (.ref a), some (.ref p), some (.str r.kind), some (.str r.tab), none] H4 := fun D H4 ts u eD e4 sG hu oU hx ex => by
    subst ex
    refine s_ret sG (gv_andV (b := true) (c := true) (gv_eq ?_ (gv_op (ln rfl) gv_c (rv_eq rfl))) fun _ => gv_call (ga_cons (td rfl rfl) (ga_cons (ix 3 rfl rfl) ga_nil)) (sv_isTests h3 oF hu oU)) fun H' e' => by rw [eD]; exact k H' (e4.trans e')
    rw [hx]; rfl
  cases r with
  | check n t ts =>
    obtain ⟨a', u, e, g1, g2⟩ := hR
    cases e
    obtain ⟨fs', o1, o2⟩ := oR
    rw [show valD tb t = some fs from e1] at o1
    cases o1
    have ee := hp.symm.trans g1
    simp only [Option.some.injEq, HO.tup.injEq, List.cons.injEq] at ee
    refine q_yes sG (gt_eq (by rfl) inCS) fun H4 s4 => ?_
    exact four _ H4 ts u rfl (e123.trans s4) (sG.same s4) g2 o2 (by rw [ee.2.2.2.2]; rfl) ee.2.2.2.1
  | some n t ts =>
    obtain ⟨a', u, e, g1, g2⟩ := hR
    cases e
    obtain ⟨fs', o1, o2⟩ := oR
    rw [show valD tb t = some fs from e1] at o1
    cases o1
    have ee := hp.symm.trans g1
    simp only [Option.some.injEq, HO.tup.injEq, List.cons.injEq] at ee
    refine q_yes sG (gt_eq (by rfl) inCS) fun H4 s4 => ?_
    exact four _ H4 ts u rfl (e123.trans s4) (sG.same s4) g2 o2 (by rw [ee.2.2.2.2]; rfl) ee.2.2.2.1
  | uniq n t f =>
    obtain ⟨a', e, g1⟩ := hR
    cases e
    obtain ⟨fs', o1, o2⟩ := oR
    rw [show valD tb t = some fs from e1] at o1
    cases o1
    have ee := hp.symm.trans g1
    simp only [Option.some.injEq, HO.tup.injEq, List.cons.injEq] at ee
    obtain ⟨_, _, _, rfl, rfl⟩ := ee
    refine q_no sG (gt_eq (by rfl) inCS) fun H4 s4 => ?_
    replace sG := sG.same s4
    refine q_yes sG (gt_eq (by rfl) (eqK "unique")) fun H5 s5 => ?_
    replace sG := sG.same s5
    refine s_ret sG (gv_andV (b := true) (c := true) (gv_op (ln rfl) gv_c (rv_eq rfl)) fun _ => gv_call (ga_cons (gv_var rfl) (ga_cons (gv_var rfl) (ga_cons (ix 3 rfl rfl) (ga_cons gv_c ga_nil)))) (sv_hasField hT oT e1 o2 rfl)) fun H' e' => k H' (((e123.trans s4).trans s5).trans e')
  | link n t f ts th =>
    obtain ⟨a', u, w', e, g1, g2, g3⟩ := hR
    cases e
    obtain ⟨fs', l, gs, o1, o2, o3, o4, o5⟩ := oR
    rw [show valD tb t = some fs from e1] at o1
    cases o1
    have ee := hp.symm.trans g1
    simp only [Option.some.injEq, HO.tup.injEq, List.cons.injEq] at ee
    obtain ⟨_, _, _, rfl, rfl⟩ := ee
    obtain ⟨kvs2, v2, hh1, hh2, hh3⟩ := h3.get o2
    obtain ⟨c, rfl, hc⟩ := hh3
    obtain ⟨kvs3, v3, i1, i2, b2, rfl, i3⟩ := hT.get o3
    refine q_no sG (gt_eq (by rfl) inCS) fun H4 s4 => ?_
    replace sG := sG.same s4
    refine q_no sG (gt_eq (by rfl) (eqK "unique")) fun H5 s5 => ?_
    replace sG := sG.same s5
    refine q_no sG (gt_eq ?_ (gt_or (b := false) (gt_test (gv_eq (by simp; rfl) (gv_op (gv_var rfl) gv_c (rv_ne rfl)))) fun _ => gt_or (b := false) (gt_test (gv_op (ln rfl) gv_c (rv_ne rfl))) fun _ => gt_not (gt_test (gv_call (ga_cons (gv_var rfl) (ga_cons (gv_var rfl) (ga_cons (ix 3 rfl rfl) (ga_cons gv_c ga_nil)))) (sv_hasField hT oT e1 o2 rfl))))) fun H6 s6 => ?_
    · rfl
    replace sG := sG.same s6
    refine q_set sG (gv_dget (k := Sum.inr l) (gv_var rfl) (gv_op (gv_dget (k := Sum.inr f) (td rfl rfl) (ix 3 rfl rfl) hh1 hh2) gv_c (rv_ixT hc rfl)) i1 i2) fun H7 s7 => ?_
    replace sG := sG.same s7
    exact s_ret sG (gv_andV (b := true) (c := true) (gv_call (ga_cons (td rfl rfl) (ga_cons (ix 4 rfl rfl) ga_nil)) (sv_isTests h3 oF g2 o4)) fun _ => gv_call (ga_cons (gv_var rfl) (ga_cons (ix 5 rfl rfl) ga_nil)) (sv_isTests i3 (oT.fs o3).1 g3 o5)) fun H' e' => k H' (((((e123.trans s4).trans s5).trans s6).trans s7).trans e')
/-! ### copies -/
def RulDp : Rul → Prop
  | .link _ _ _ ts th => (ts.length ≤ 2 ∧ ∀ t ∈ ts, t.dep ≤ 2) ∧ th.length ≤ 2 ∧ ∀ t ∈ th, t.dep ≤ 2
  | .uniq .. => True
  | .some _ _ ts => ts.length ≤ 2 ∧ ∀ t ∈ ts, t.dep ≤ 2
  | .check _ _ ts => ts.length ≤ 2 ∧ ∀ t ∈ ts, t.dep ≤ 2
theorem RulOk.dp {tb : Tbs} {r : Rul} (h : RulOk tb r) : RulDp r := by
  cases r with
  | link n t f ts th => obtain ⟨fs, u, gs, _, _, _, h4, h5⟩ := h; exact ⟨⟨h4.1, fun t ht => (h4.2 t ht).2⟩, h5.1, fun t ht => (h5.2 t ht).2⟩
  | uniq n t f => trivial
  | some n t ts => obtain ⟨fs, _, h4⟩ := h; exact ⟨h4.1, fun t ht => (h4.2 t ht).2⟩
  | check n t ts => obtain ⟨fs, _, h4⟩ := h; exact ⟨h4.1, fun t ht => (h4.2 t ht).2⟩
def spCopR : Sp := fun vs H Q _ => ∃ v r G, vs = [v] ∧ Sub G H ∧ RulV v r G ∧ RulDp r ∧ ∀ v' G' H', Stp G H G' H' → RulV v' r G' → Q v' H'
theorem sx_copR {G : Hp} {v : V} {r : Rul} (h : RulV v r G) (hn : RulDp r) : Sx spCopR [v] G fun v' G' => RulV v' r G' := fun H s Q E q => ⟨v, r, G, rfl, s, h, hn, q⟩
abbrev N_copied_rule : List Str := ["rule"]
theorem sc_copied_rule : FnScope N_copied_rule ["rule"] (defScope s_copied_rule) := ⟨rfl, rfl, rfl, by decide +kernel, rfl, by decide +kernel, by decide +kernel⟩
-- slots: 0 rule
theorem c_copied_rule (T : Tx K mg) : Cal P w K mg base 6 "copied_rule" spCopR := by
  refine ⟨_, _, ["rule"], fn_body T.f_copied_rule sc_copied_rule (fun vs H Q E h => by obtain ⟨_, _, _, rfl, _⟩ := h; rfl) (fun cdv A outer s H vs Q E hr h => ?_), T.g_copied_rule, T.f_copied_rule.kp, T.f_copied_rule.bindsN fun _ _ _ _ _ _ us hl => match us, hl with | [_], _ => rfl⟩
  obtain ⟨v, r, G, rfl, sG, hR, dR, k⟩ := h
  have hu := hu_of hr
  refine ⟨_,
    (pss_cons (ps_if (pt_cmpR op_eq (pe_ix (ix_tupK rfl) (pv 0) pe_int (fun _ _ => rfl)) pe_str (nomark _))
      (pss_one (ps_ret (pv 0)))
      pss_nil)
    (pss_cons (ps_if (pt_cmpR op_eq (pe_ix (ix_tupK rfl) (pv 0) pe_int (fun _ _ => rfl)) pe_str (nomark _))
      (pss_one (ps_ret (pe_op (op_catTK rfl) (pe_slice (sl_tupK rfl) (pv 0) po_none (po_some pe_int)) (pe_tup (pa_cons (pe_cal (c_copied_tests T) hr (by decide) rfl (pa_cons (pe_ix (ix_tupK rfl) (pv 0) pe_int (fun _ _ => rfl)) pa_nil)) (pa_cons (pe_cal (c_copied_tests T) hr (by decide) rfl (pa_cons (pe_ix (ix_tupK rfl) (pv 0) pe_int (fun _ _ => rfl)) pa_nil)) pa_nil))))))
      pss_nil)
    (pss_one (ps_ret (pe_op (op_catTK rfl) (pe_slice (sl_tupK rfl) (pv 0) po_none (po_some pe_int)) (pe_tup (pa_cons (pe_cal (c_copied_tests T) hr (by decide) rfl (pa_cons (pe_ix (ix_tupK rfl) (pv 0) pe_int (fun _ _ => rfl)) pa_nil)) pa_nil))))))), ?_⟩
  obtain ⟨p, x, xs, rfl, hp⟩ := hR.any
  have ix : ∀ {σ : L2.St} (i : Nat) {y : V}, (V.str r.name :: V.str r.kind :: V.str r.tab :: x :: xs)[i]? = some y → σ[0]? = some (some (.ref p)) → Gv (tOp (rIxT K) (tVar 0) (tC (.int (i : Nat)))) σ G y := fun i y hy h => gv_op (gv_var h) gv_c (rv_ixT hp (atN hy))
  have eqK : ∀ s : Str, Gt (tTest (tOp rEq (tOp (rIxT K) (tVar 0) (tC (.int 1))) (tC (.str s)))) [some (.ref p)] G (decide (r.kind = s)) := fun s => gt_test (gv_eq (by simp) (gv_op (ix 1 rfl rfl) gv_c (rv_eq rfl)))
  cases r with
  | uniq n t f =>
    refine q_yes sG (gt_eq (by rfl) (eqK "unique")) fun H1 s1 => ?_
    exact s_ret (sG.same s1) (gv_var rfl) fun H2 s2 => k _ G H2 ((Stp.refl sG).grow (s1.trans s2)) hR
  | link n t f ts th =>
    obtain ⟨a', u, w', e, g1, g2, g3⟩ := hR
    cases e
    have ee := hp.symm.trans g1
    simp only [Option.some.injEq, HO.tup.injEq, List.cons.injEq] at ee
    obtain ⟨_, _, _, rfl, rfl⟩ := ee
    refine q_no sG (gt_eq (by rfl) (eqK "unique")) fun H1 s1 => ?_
    replace sG := sG.same s1
    refine q_yes sG (gt_eq (by rfl) (eqK "link")) fun H2 s2 => ?_
    replace sG := sG.same s2
    refine s_retX sG (ge_catT (gu_slT (ys := [.str n, .str "link", .str t, .str f]) (gv_var rfl) hp to_none to_int (show ¬ (HT.sIx 6 0 none = 0 ∧ HT.sIx 6 6 (some 4) = 6) by decide) rfl) (by simp) (gxa_cons (ge_call (ga_cons (ix 4 rfl rfl) ga_nil) (sx_copTs g2 dR.1)) fun v1 G1 e1 f1 => gxa_cons (ge_call (ga_cons (gv_op (gv_var rfl) gv_c (rv_ixT (e1 _ _ hp) rfl)) ga_nil) (sx_copTs (ts_mono _ _ _ _ e1 g3) dR.2)) fun v2 G2 e2 f2 => gxa_nil ⟨by simp, by simp, fun p hp => ?_⟩)) fun v' G' H' st f => k v' G' H' (st.pre (s1.trans s2)) f
    exact ⟨p, v1, v2, rfl, upd_same, ts_mono _ _ _ _ (e2.trans (Same.put hp)) f1, ts_mono _ _ _ _ (Same.put hp) f2⟩
  | some n t ts =>
    obtain ⟨a', u, e, g1, g2⟩ := hR
    cases e
    have ee := hp.symm.trans g1
    simp only [Option.some.injEq, HO.tup.injEq, List.cons.injEq] at ee
    obtain ⟨_, _, _, rfl, rfl⟩ := ee
    refine q_no sG (gt_eq (by rfl) (eqK "unique")) fun H1 s1 => ?_
    replace sG := sG.same s1
    refine q_no sG (gt_eq (by rfl) (eqK "link")) fun H2 s2 => ?_
    replace sG := sG.same s2
    refine s_retX sG (ge_catT (gu_slT (ys := [.str n, .str "some", .str t]) (gv_var rfl) hp to_none to_int (show ¬ (HT.sIx 4 0 none = 0 ∧ HT.sIx 4 4 (some 3) = 4) by decide) rfl) (by simp) (gxa_cons (ge_call (ga_cons (ix 3 rfl rfl) ga_nil) (sx_copTs g2 dR)) fun v1 G1 e1 f1 => gxa_nil ⟨by simp, by simp, fun p hp => ?_⟩)) fun v' G' H' st f => k v' G' H' (st.pre (s1.trans s2)) f
    exact ⟨p, v1, rfl, upd_same, ts_mono _ _ _ _ (Same.put hp) f1⟩
  | check n t ts =>
    obtain ⟨a', u, e, g1, g2⟩ := hR
    cases e
    have ee := hp.symm.trans g1
    simp only [Option.some.injEq, HO.tup.injEq, List.cons.injEq] at ee
    obtain ⟨_, _, _, rfl, rfl⟩ := ee
    refine q_no sG (gt_eq (by rfl) (eqK "unique")) fun H1 s1 => ?_
    replace sG := sG.same s1
    refine q_no sG (gt_eq (by rfl) (eqK "link")) fun H2 s2 => ?_
    replace sG := sG.same s2
    refine s_retX sG (ge_catT (gu_slT (ys := [.str n, .str "check", .str t]) (gv_var rfl) hp to_none to_int (show ¬ (HT.sIx 4 0 none = 0 ∧ HT.sIx 4 4 (some 3) = 4) by decide) rfl) (by simp) (gxa_cons (ge_call (ga_cons (ix 3 rfl rfl) ga_nil) (sx_copTs g2 dR)) fun v1 G1 e1 f1 => gxa_nil ⟨by simp, by simp, fun p hp => ?_⟩)) fun v' G' H' st f => k v' G' H' (st.pre (s1.trans s2)) f
    exact ⟨p, v1, rfl, upd_same, ts_mono _ _ _ _ (Same.put hp) f1⟩
def cfld : Fld → Fld
  | .mark ws => .mark (sortS ws)
  | f => f
theorem cfld_sort (f : Fld) : (cfld f).sort = f.sort := by cases f <;> rfl
def spCopF : Sp := fun vs H Q _ => ∃ v f G, vs = [v] ∧ Sub G H ∧ FldAt v f G ∧ FldOk f ∧ ∀ v' G' H', Stp G H G' H' → FldAt v' (cfld f) G' → Q v' H'
theorem sx_copF {G : Hp} {v : V} {f : Fld} (h : FldAt v f G) (hn : FldOk f) : Sx spCopF [v] G fun v' G' => FldAt v' (cfld f) G' := fun H s Q E q => ⟨v, f, G, rfl, s, h, hn, q⟩
abbrev N_copied_field : List Str := ["field"]
theorem sc_copied_field : FnScope N_copied_field ["field"] (defScope s_copied_field) := ⟨rfl, rfl, rfl, by decide +kernel, rfl, by decide +kernel, by decide +kernel⟩
-- slots: 0 field
theorem c_copied_field (T : Tx K mg) : Cal P w K mg base 1 "copied_field" spCopF := by
  refine ⟨_, _, ["field"], fn_body T.f_copied_field sc_copied_field (fun vs H Q E h => by obtain ⟨_, _, _, rfl, _⟩ := h; rfl) (fun cdv A outer s H vs Q E hr h => ?_), T.g_copied_field, T.f_copied_field.kp, T.f_copied_field.bindsN fun _ _ _ _ _ _ us hl => match us, hl with | [_], _ => rfl⟩
  obtain ⟨v, f, G, rfl, sG, hf, ok, k⟩ := h
  have hu := hu_of hr
  refine ⟨_,
    (pss_one (ps_ret (pe_ifExp (pt_cmpR op_eq (pe_ix (ix_tupK rfl) (pv 0) pe_int (fun _ _ => rfl)) pe_str (nomark _)) (pe_tup (pa_cons pe_str (pa_cons (pe_callB (cr_sortedSK rfl) (by rfl) T.b_sorted (by decide +kernel) (pa_cons (pe_ix (ix_tupK rfl) (pv 0) pe_int (fun _ _ => rfl)) pa_nil)) pa_nil))) (pv 0)))), ?_⟩
  obtain ⟨p, r, rfl, hp⟩ := hf.any
  have eqK : Gt (tTest (tOp rEq (tOp (rIxT K) (tVar 0) (tC (.int 0))) (tC (.str "mark")))) [some (.ref p)] G (decide (f.sort = "mark")) := gt_test (gv_eq (by simp) (gv_op (gv_op (gv_var rfl) gv_c (rv_ixT hp (at0 _ _))) gv_c (rv_eq rfl)))
  cases f with
  | mark ws =>
    obtain ⟨a, l, e, h1, h2⟩ := hf
    cases e
    refine s_retX sG (ge_if (b := true) eqK (fun _ => ge_tup (gxa_consV gv_c (gxa_cons (ge_gn (Φ := fun v' G' => ∃ l', v' = V.ref l' ∧ G' l' = some (sL (sortS ws))) (gl_sorted (gv_op (gv_var rfl) gv_c (rv_ixT h1 rfl)) h2 (by have := ok.2.1; omega)) fun q hq => ⟨q, rfl, upd_same⟩) fun v' G' e' hv' => gxa_nil ⟨few rfl, fun q hq => ?_⟩))) fun z => nomatch z) k
    obtain ⟨l', rfl, hl'⟩ := hv'
    exact ⟨q, l', rfl, upd_same, by rw [upd_ne (ne_of_none hl' hq)]; exact hl'⟩
  | link t => exact s_ret sG (gv_if (b := false) eqK (fun z => nomatch z) fun _ => gv_var rfl) fun H1 e1 => k _ G H1 ((Stp.refl sG).grow e1) hf
  | tag => exact s_ret sG (gv_if (b := false) eqK (fun z => nomatch z) fun _ => gv_var rfl) fun H1 e1 => k _ G H1 ((Stp.refl sG).grow e1) hf
end
end K25

/-! D1 -/
/-! D1: sorted data. -/
namespace K25
open PySem PySem.Spec PyProof.Rows L2
section
variable {α β : Type}
def leK (a b : Str × α) : Bool := leS a.1 b.1
def srtD (l : List (Str × α)) : List (Str × α) := l.mergeSort leK
theorem srtD_perm (l : List (Str × α)) : (srtD l).Perm l := List.mergeSort_perm l leK
theorem srtD_pw (l : List (Str × α)) : (srtD l).Pairwise fun a b => leK a b = true := List.pairwise_mergeSort (fun a b c h1 h2 => leS_trans a.1 b.1 c.1 h1 h2) (fun a b => leS_total a.1 b.1) l
theorem srtD_keys (l : List (Str × α)) : (srtD l).map (·.1) = sortS (l.map (·.1)) := sortS_eq ((srtD_perm l).map _) (List.pairwise_map.mpr (srtD_pw l))
theorem srtD_nodup {l : List (Str × α)} (h : (l.map (·.1)).Nodup) : ((srtD l).map (·.1)).Nodup := by rw [srtD_keys]; exact sortS_nodup h
theorem srtD_mem {l : List (Str × α)} {x : Str × α} : x ∈ srtD l ↔ x ∈ l := (srtD_perm l).mem_iff
theorem srtD_len (l : List (Str × α)) : (srtD l).length = l.length := (srtD_perm l).length_eq
theorem valD_none {l : List (Str × α)} {k : Str} : valD l k = none ↔ k ∉ l.map (·.1) := by
  have := valD_some (l := l) (k := k)
  cases e : valD l k with
  | none => rw [e] at this; simp at this; simpa using this
  | some x => rw [e] at this; simp at this; simpa using this
theorem valD_perm {l m : List (Str × α)} (hn : (m.map (·.1)).Nodup) (p : l.Perm m) (k : Str) : valD l k = valD m k := by
  have hl : (l.map (·.1)).Nodup := (p.map _).nodup_iff.mpr hn
  cases e : valD m k with
  | none =>
    rw [valD_none] at e ⊢
    exact fun z => e ((p.map _).mem_iff.mp z)
  | some x => exact valD_of hl (p.mem_iff.mpr (valD_mem e))
theorem valD_srt {l : List (Str × α)} (hn : (l.map (·.1)).Nodup) (k : Str) : valD (srtD l) k = valD l k := valD_perm hn (srtD_perm l) k
theorem valD_map (l : List (Str × α)) (f : α → β) (k : Str) : valD (l.map fun p => (p.1, f p.2)) k = (valD l k).map f := by
  induction l with
  | nil => rfl
  | cons p l ih =>
    rw [List.map_cons, valD_cons, valD_cons]
    by_cases e : p.1 = k
    · rw [if_pos e, if_pos e]; rfl
    · rw [if_neg e, if_neg e, ih]
theorem keys_map (l : List (Str × α)) (f : α → β) : (l.map fun p => (p.1, f p.2)).map (·.1) = l.map (·.1) := by rw [List.map_map]; rfl
theorem valD_take_none {l : List (Str × α)} (hn : (l.map (·.1)).Nodup) {i : Nat} {p : Str × α} (h : l[i]? = some p) : valD (l.take i) p.1 = none := by
  rw [valD_none]
  intro z
  obtain ⟨q, hq, e⟩ := List.mem_map.mp z
  obtain ⟨j, hj, ej⟩ := List.mem_iff_getElem.mp hq
  rw [List.length_take] at hj
  rw [List.getElem_take] at ej
  obtain ⟨hi, ei⟩ := List.getElem?_eq_some_iff.mp h
  have e1 : (l.map (·.1))[j]'(by rw [List.length_map]; omega) = (l.map (·.1))[i]'(by rw [List.length_map]; omega) := by
    rw [List.getElem_map, List.getElem_map, ej, ei, e]
  have := (List.getElem_inj hn).mp e1
  omega
end
def cfs (fs : Flds) : Flds := (srtD fs).map fun p => (p.1, cfld p.2)
def ctb (tb : Tbs) : Tbs := (srtD tb).map fun p => (p.1, cfs p.2)
theorem cfs_keys (fs : Flds) : (cfs fs).map (·.1) = sortS (fs.map (·.1)) := by unfold cfs; rw [keys_map, srtD_keys]
theorem ctb_keys (tb : Tbs) : (ctb tb).map (·.1) = sortS (tb.map (·.1)) := by unfold ctb; rw [keys_map, srtD_keys]
theorem cfs_val {fs : Flds} (hn : (fs.map (·.1)).Nodup) (k : Str) : valD (cfs fs) k = (valD fs k).map cfld := by unfold cfs; rw [valD_map, valD_srt hn]
theorem ctb_val {tb : Tbs} (hn : (tb.map (·.1)).Nodup) (k : Str) : valD (ctb tb) k = (valD tb k).map cfs := by unfold ctb; rw [valD_map, valD_srt hn]
theorem cfld_ok {f : Fld} (h : FldOk f) : FldOk (cfld f) := by
  cases f with
  | mark ws => exact ⟨by rw [sortS_len]; exact h.1, by rw [sortS_len]; exact h.2.1, fun x hx => h.2.2.1 x (sortS_mem.mp hx), sortS_nodup h.2.2.2⟩
  | link t => exact h
  | tag => trivial
theorem cnt_cfs (s : Str) (fs : Flds) : cnt s (cfs fs) = cnt s fs := by
  unfold cnt cfs
  rw [List.filter_map, List.length_map]
  have : ((fun f : Str × Fld => decide (f.2.sort = s)) ∘ fun p : Str × Fld => (p.1, cfld p.2)) = fun f => decide (f.2.sort = s) := by
    funext f
    show decide ((cfld f.2).sort = s) = _
    rw [cfld_sort]
  rw [this]
  exact ((srtD_perm fs).filter _).length_eq
theorem cfs_ok {fs : Flds} (h : FsOk fs) : FsOk (cfs fs) where
  nd := by rw [cfs_keys]; exact sortS_nodup h.nd
  nm := fun f hf => by
    obtain ⟨q, hq, rfl⟩ := List.mem_map.mp hf
    exact h.nm q (srtD_mem.mp hq)
  ok := fun f hf => by
    obtain ⟨q, hq, rfl⟩ := List.mem_map.mp hf
    exact cfld_ok (h.ok q (srtD_mem.mp hq))
  c1 := by rw [cnt_cfs]; exact h.c1
  c2 := by rw [cnt_cfs]; exact h.c2
  c3 := by rw [cnt_cfs]; exact h.c3
  len := by unfold cfs; rw [List.length_map, srtD_len]; exact h.len
theorem ctb_ok {tb : Tbs} (h : TbsOk tb) : TbsOk (ctb tb) where
  nd := by rw [ctb_keys]; exact sortS_nodup h.nd
  nm := fun f hf => by
    obtain ⟨q, hq, rfl⟩ := List.mem_map.mp hf
    exact h.nm q (srtD_mem.mp hq)
  ok := fun f hf => by
    obtain ⟨q, hq, rfl⟩ := List.mem_map.mp hf
    exact cfs_ok (h.ok q (srtD_mem.mp hq))
  lo := by unfold ctb; rw [List.length_map, srtD_len]; exact h.lo
  hi := by unfold ctb; rw [List.length_map, srtD_len]; exact h.hi
  lk := fun t ht f hf u e => by
    obtain ⟨q, hq, rfl⟩ := List.mem_map.mp ht
    obtain ⟨g, hg, rfl⟩ := List.mem_map.mp hf
    rw [ctb_keys, sortS_mem]
    refine h.lk q (srtD_mem.mp hq) g (srtD_mem.mp hg) u ?_
    have e : cfld g.2 = .link u := e
    cases e2 : g.2 with
    | link t => rw [e2] at e; exact e
    | mark ws => rw [e2] at e; cases e
    | tag => rw [e2] at e; cases e
/-- keys sorted -/
def SrD {α : Type} (l : List (Str × α)) : Prop := (l.map (·.1)).Pairwise fun a b => leS a b = true
def CanT (tb : Tbs) : Prop := SrD tb ∧ ∀ t ∈ tb, SrD t.2
theorem cfs_srt (fs : Flds) : SrD (cfs fs) := by unfold SrD; rw [cfs_keys]; exact sortS_pw _
theorem ctb_can (tb : Tbs) : CanT (ctb tb) := ⟨by unfold SrD; rw [ctb_keys]; exact sortS_pw _, fun t ht => by
  obtain ⟨q, hq, rfl⟩ := List.mem_map.mp ht
  exact cfs_srt _⟩
theorem SrD.sortS {α : Type} {l : List (Str × α)} (h : SrD l) : K25.sortS (l.map (·.1)) = l.map (·.1) := (sortS_eq (List.Perm.refl _) h).symm
/-- the same walk, told by other data -/
theorem GI.from_ {δ ε : Type} {Pre : Hp → Prop} {wi : TI} {g : TG} {σ : L2.St} {G : Hp} {ds : List δ} {es : List ε} {up : δ → L2.St → L2.St} {up' : ε → L2.St → L2.St} (h : GI Pre wi g σ G ds up) (f : ε → δ) (e : ds = es.map f) (hu : ∀ x ∈ es, ∀ σ, up (f x) σ = up' x σ) : GI Pre wi g σ G es up' := fun H s c R r =>
  h H s c R fun J G' H' st wk => r J G' H' st ⟨fun H2 s2 e2 i x hx => by
    have hd : ds[i]? = some (f x) := by rw [e, List.getElem?_map, hx]; rfl
    obtain ⟨go, y⟩ := wk.go H2 s2 e2 i (f x) hd
    refine ⟨go, fun z H3 yl => ?_⟩
    obtain ⟨s1, s2⟩ := y z H3 yl
    refine ⟨s1, fun σ' Q q' => s2 σ' Q fun H4 e4 => ?_⟩
    rw [hu x (List.mem_of_getElem? hx) σ']
    exact q' H4 e4, fun H2 s2 e2 => by
    have z := wk.stop H2 s2 e2
    rw [e, List.length_map] at z
    exact z⟩
theorem pw_inr {α : Type} {l : List (Str × α)} (h : (l.map (·.1)).Nodup) : (l.map fun q => (Sum.inr q.1 : Key)).Nodup := by
  have : (l.map fun q => (Sum.inr q.1 : Key)) = (l.map (·.1)).map Sum.inr := by rw [List.map_map]; rfl
  rw [this]
  exact List.pairwise_map.mpr (h.imp fun h z => h (Sum.inr.inj z))
end K25

/-! F8 -/
namespace K25
open PySem PySem.Spec PyProof.Rows L2
theorem names_not {rs : List Rul} (nd : (rs.map Rul.name).Nodup) {i : Nat} {r : Rul} (h : rs[i]? = some r) : r.name ∉ (rs.take i).map Rul.name := by
  intro z
  obtain ⟨q, hq, e⟩ := List.mem_map.mp z
  obtain ⟨j, hj, ej⟩ := List.mem_iff_getElem.mp hq
  rw [List.length_take] at hj
  rw [List.getElem_take] at ej
  obtain ⟨hi, ei⟩ := List.getElem?_eq_some_iff.mp h
  have e1 : (rs.map Rul.name)[j]'(by rw [List.length_map]; omega) = (rs.map Rul.name)[i]'(by rw [List.length_map]; omega) := by
    rw [List.getElem_map, List.getElem_map, ej, ei, e]
  have := (List.getElem_inj nd).mp e1
  omega
theorem all2_snocD {α : Type} {R : RelD α} {G : Hp} {kvs : List (Key × V)} {l : List (Str × α)} {i : Nat} {p : Str × α} {v : V} (h : PrD R G kvs (l.take i)) (e : l[i]? = some p) (hv : R v p.2 G) : PrD R G (kvs ++ [(Sum.inr p.1, v)]) (l.take (i + 1)) := by
  rw [take_snoc e]
  exact All2.snoc h ⟨rfl, hv⟩
section
variable {P : Program} {w : World} {K : PySem.W.Frag} {mg : Str → Option Value} {base : Heap}
def insS (d l : Addr) : List (Str × V) := [("kept_tables", .ref d), ("kept_rules", .ref l)]
def spSchInit (C : Addr) : Sp := fun vs H Q _ => ∃ x a b dx tb rs G H0, vs = [.ref x, .ref a, .ref b] ∧ Sub G H0 ∧ Same H0 H ∧ H0 x = none ∧ H x = some (.ins C dx []) ∧ TbsAt G a tb ∧ TbsOk tb ∧ RsAt G b rs ∧ RsOk tb rs ∧
  ∀ G' H' d l, Stp G H0 G' H' → Own H0 G' x H' (.ins C dx (insS d l)) → TbsAt G' d (ctb tb) → RsAt G' l rs → Q .non H'
abbrev N_Schema_init : List Str := ["self", "tables", "rules", "met", "at", "rule", "table", "fields", "name"]
theorem sc_Schema_init : FnScope N_Schema_init ["self", "tables", "rules"] (defScope s_Schema_init) := ⟨rfl, rfl, rfl, by decide +kernel, rfl, by decide +kernel, by decide +kernel⟩
-- slots: 0 self, 1 tables, 2 rules, 3 met, 4 at, 5 rule, 6 table, 7 fields*, 8 name
theorem k_Schema (T : Tx K mg) : Mak P w K mg base 9 "Schema" (He.ga K "Schema") (spSchInit (He.ga K "Schema")) := by
  obtain ⟨ds, hds, hb⟩ := T.f_Schema_init.binds1 (ps := ["self", "tables", "rules"]) 3 1 (fun z => nomatch z) rfl fun T kV doc pm an cdv ct us its hu hi => match us, hu, its, hi with | [_, _, _], _, [_], _ => ⟨_, rfl, rfl⟩
  cases hds
  refine ⟨_, _, ["self", "tables", "rules"], T.mk_Schema, fn_body T.f_Schema_init sc_Schema_init (fun vs H Q E h => by obtain ⟨_, _, _, _, _, _, _, _, rfl, _⟩ := h; rfl) (fun cdv A outer s H vs Q E hr h => ?_), T.g_Schema, hb⟩
  obtain ⟨x, a, b, dx, tb, rs, G, H0, rfl, s0, e0, hx0, hx, hT, oT, hR, oR, k⟩ := h
  have hu := hu_of hr
  refine ⟨_,
    (pss_cons (ps_if (pt_not (pt_val (pe_cal (c_are_tables T) hr (by decide) rfl (pa_cons (pv 1) pa_nil))))
      (pss_one ps_never)
      pss_nil)
    (pss_cons (ps_if (PW.pt (pw_or (pt_not (pt_val (pe_callB (call_isiTK rfl) (by rfl) T.b_isinstance (by decide +kernel) (pa_cons (pv 2) (pa_cons (pe_tup (pa_cons (pe_bltn (v := .ty "list") (by rfl) T.b_list (by decide +kernel) rfl) (pa_cons (pe_bltn (v := .ty "tuple") (by rfl) T.b_tuple (by decide +kernel) rfl) pa_nil))) pa_nil))))) (pw_or1 (pt_cmpR op_gt (pe_callB (call_len_seqK rfl) (by rfl) T.b_len (by decide +kernel) (pa_cons (pv 2) pa_nil)) pe_int (nomark _)))))
      (pss_one ps_never)
      pss_nil)
    (pss_cons (ps_set (i := 3) sc_Schema_init.nd rfl (Or.inl rfl) (pe_lst pa_nil))
    (pss_cons (ps_for PassesOwn.never rfl (pi_enum (by rfl) T.b_enumerate (pa_cons (pv 2) pa_nil)) (pg_tupK (n := 2) rfl rfl (pgs_cons (pg_name (i := 4) sc_Schema_init.nd rfl (Or.inl rfl)) (pgs_cons (pg_name (i := 5) sc_Schema_init.nd rfl (Or.inl rfl)) pgs_nil)))
      (pss_cons (ps_if (PW.pt (pw_or (pt_not (pt_val (pe_cal (c_is_rule T) hr (by decide) rfl (pa_cons (pv 1) (pa_cons (pv 5) pa_nil))))) (pw_or1 (pt_cmpR (op_in_seqK rfl) (pe_ix (ix_tupK rfl) (pv 5) pe_int (fun _ _ => rfl)) (pv 3) (by rfl)))))
        (pss_one ps_never)
        pss_nil)
      (pss_one (ps_expr (pe_bmK rfl PySem.F.plainAttrs_list PySem.F.slot_list_append PySem.F.type_list_append mt_append (pv 3) (pa_cons (pe_ix (ix_tupK rfl) (pv 5) pe_int (fun _ _ => rfl)) pa_nil))))))
    (pss_cons (ps_fld (pv 0) pe_dnewK rfl)
    (pss_cons (ps_for PassesOwn.never rfl (pi_listK rfl (pe_callB (cr_sortedD rfl) (by rfl) T.b_sorted (by decide +kernel) (pa_cons (pv 1) pa_nil))) (pg_name (i := 6) sc_Schema_init.nd rfl (Or.inl rfl))
      (pss_cons (ps_set (i := 7) sc_Schema_init.nd rfl (Or.inr rfl) (pe_dget hu (pv 1) (pv 6) (fun _ _ => rfl)))
      (pss_one (ps_dput hu (pe_fldK rfl (pv 0) rfl) (pv 6) (pe_dc rfl sc_Schema_init.nd (pi_listK rfl (pe_callB (cr_sortedD rfl) (by rfl) T.b_sorted (by decide +kernel) (pa_cons (pv 7) pa_nil))) (blkOk_by (own := [("name", 8)]) (N := N_Schema_init) (sc := defScope s_Schema_init) (by decide +kernel)) (fun _ _ _ _ _ => (pg_name (i := 8) sc_Schema_init.nd rfl (Or.inl rfl))) (fun _ _ _ _ _ => pts_nil) (fun _ _ _ _ _ => (pv 8)) (fun _ _ _ _ _ => (pe_cal (c_copied_field T) hr (by decide) rfl (pa_cons (pe_dget hu (pv 7) (pv 8) (fun _ _ => rfl)) pa_nil)))) rfl))))
    (pss_one (ps_fld (pv 0) (pe_lc rfl sc_Schema_init.nd (pi_listK rfl (pv 2)) (blkOk_by (own := [("rule", 5)]) (N := N_Schema_init) (sc := defScope s_Schema_init) (by decide +kernel)) (fun _ _ _ _ _ => (pg_name (i := 5) sc_Schema_init.nd rfl (Or.inl rfl))) (fun _ _ _ _ _ => pts_nil) (fun _ _ _ _ _ => (pe_cal (c_copied_rule T) hr (by decide) rfl (pa_cons (pv 5) pa_nil)))) rfl)))))))), ?_⟩
  have st : Stp G H0 G H := (Stp.refl s0).grow e0
  have wx : Own H0 G x H (.ins (He.ga K "Schema") dx []) := ⟨hx0, s0.non hx0, hx⟩
  refine q_no st.sub (gt_not (gt_test (gv_call (ga_cons (gv_var rfl) ga_nil) (sv_areTables hT oT)))) fun H1 e1 => ?_
  replace st := st.grow e1; replace wx := wx.grow e1
  obtain ⟨rvs, hr1, hr2⟩ := hR
  obtain ⟨z1, z2, z3⟩ := hr2.zip
  have rl : rvs.length = rs.length := hr2.length
  have rlen := oR.len
  refine q_no st.sub (gt_eq ?_ (gt_or (gt_not (gt_B (gv_isiLT (gv_var rfl) (ty_lst hr1)))) fun _ => gt_test (gv_op (gv_lenL (n := rs.length) (gv_var rfl) hr1 (by rw [rl])) gv_c rv_I0))) fun H2 e2 => ?_
  · simp; omega
  replace st := st.grow e2; replace wx := wx.grow e2
  refine q_setN st.sub (gl_lst ga_nil (by decide)) fun m H3 e3 hm3 hm => ?_
  have wm : Own H0 G m H3 (sL []) := .made st e3 hm3 hm
  replace st := st.grow e3; replace wx := wx.grow e3
  -- the rules
  refine q_of (s_for (Pre := Fr0) (G0 := G) (H0 := H0) (Iv := fun i σ2 G2 H2 => (∃ s4 s5, σ2 = [some (.ref x), some (.ref a), some (.ref b), some (.ref m), s4, s5, none, none, none]) ∧ Own H0 G2 m H2 (sL ((rs.take i).map Rul.name)) ∧ Own H0 G2 x H2 (.ins (He.ga K "Schema") dx []) ∧ Same G G2)
    st (gi_enum (ds := rvs.zip rs) (emb := fun q => q.1) (gv_var rfl) (by rw [← z1]; exact hr1)) trivial (fun i σ' G' H1 H2 e h => ⟨h.1, h.2.1.grow e, h.2.2.1.grow e, h.2.2.2⟩) (fun G1 H1 s1 => ⟨⟨_, _, rfl⟩, wm.step s1, wx.step s1, s1.ex⟩) (fun G1 H1 s1 i d hd σ2 G2 H2 lp iv => ?_) fun G2 H4 σ2 lp iv => ?_)
  · obtain ⟨⟨v4, v5, rfl⟩, wm, wx, eG⟩ := iv
    rw [List.getElem?_zipIdx] at hd
    cases eq : (rvs.zip rs)[i]? with
    | none => rw [eq] at hd; cases hd
    | some q =>
      rw [eq] at hd
      have := Option.some.inj hd
      subst this
      have hq := List.mem_of_getElem? eq
      have hri : rs[i]? = some q.2 := by rw [z2, List.getElem?_map, eq]; rfl
      have hrm := List.mem_of_getElem? hri
      have hv := rul_mono _ _ _ _ eG (z3 q hq)
      obtain ⟨p, y, ys, ep, hp⟩ := hv.any
      refine q_no (lp.tell wm).st.sub (gt_eq ?_ (gt_or (gt_not (gt_test (gv_call (ga_cons (gv_var rfl) (ga_cons (gv_var rfl) ga_nil)) (sv_isRule ((hT.mono fs_mono eG).mono fs_mono (Same.put wm.g)) oT (rul_mono _ _ _ _ (Same.put wm.g) hv) (oR.ok _ hrm) (oR.nm _ hrm))))) fun _ => gt_test (gv_op (gv_op (gv_eq ep (gv_var rfl)) gv_c (rv_ixT (Same.put wm.g _ _ hp) (at0 _ _))) (gv_var rfl) (rv_inS upd_same)))) fun H5 e5 => ?_
      · simp
        have := names_not oR.nd hri
        simpa using this
      have wm5 := wm.grow e5
      refine s_append (lp.st.sub.same e5) (gv_var rfl) (gv_op (gv_eq ep (gv_var rfl)) gv_c (rv_ixT hp (at0 _ _))) wm5.at_ (by rw [List.length_map, sizeLine_eq, List.length_map, List.length_take]; omega) fun H6 e6 => ⟨G2, ((lp.grow e5).grow e6).write (wm5.grow e6) (by simp), ⟨_, _, rfl⟩, ?_, ((wx.grow e5).grow e6).other ?_, eG⟩
      · have := (wm5.grow e6).write (u := .lst ((((rs.take i).map Rul.name).map V.str) ++ [V.str q.2.name]))
        rw [take_snoc hri, List.map_append]
        unfold sL
        rw [List.map_append]
        exact this
      · intro z
        rw [z] at wx
        have := wx.at_.symm.trans wm.at_
        cases this
  obtain ⟨⟨v4, v5, rfl⟩, wm, wx, eG⟩ := iv
  replace st := lp.st
  replace hT : TbsAt G2 a tb := hT.mono fs_mono eG
  replace hr1 := eG _ _ hr1
  replace z3 : ∀ q ∈ rvs.zip rs, RulV q.1 q.2 G2 := fun q hq => rul_mono _ _ _ _ eG (z3 q hq)
  -- self.kept_tables = {}
  refine s_fldN (D := { nx := _, rt := Q }) st.sub (Gn.gm (Pre := Fr0) gd_new) fun d o G5 H5 s5 hd0 gd hd f5 => ?_
  obtain ⟨rfl, eg5⟩ := f5
  replace eg5 := eg5.symm
  subst eg5
  replace wx := wx.grow s5.keep
  have wd : Own H0 G2 d H5 (.dK []) := .made st s5.keep hd0 hd
  replace st := st.trans s5
  have nxd : x ≠ d := fun z => by rw [z] at wx; have := wx.at_.symm.trans wd.at_; cases this
  refine ⟨upd G2 x (.ins (He.ga K "Schema") dx []), x, _, dx, [], st.sub.put wx.at_, gv_var rfl, wx.at_, T.cl_Schema, T.na_kept_tables, by simp, fun H6 e6 => ?_⟩
  replace wd := (wd.grow e6).other (q := x) (u := .ins (He.ga K "Schema") dx [("kept_tables", .ref d)]) (Ne.symm nxd)
  have wx6 : Own H0 G2 x (upd H6 x (.ins (He.ga K "Schema") dx [("kept_tables", .ref d)])) (.ins (He.ga K "Schema") dx [("kept_tables", .ref d)]) := (wx.grow e6).write
  have st6 : Stp G H0 G2 (upd H6 x (.ins (He.ga K "Schema") dx [("kept_tables", .ref d)])) := (st.grow e6).writeO (wx.grow e6)
  generalize hH7 : upd H6 x (.ins (He.ga K "Schema") dx [("kept_tables", .ref d)]) = H7 at wd wx6 st6
  show tSeq _ _ _ _ (upd H6 x (.ins (He.ga K "Schema") dx [("kept_tables", .ref d)]))
  rw [hH7]
  clear hH7
  obtain ⟨kvs, ha1, ha2⟩ := id hT
  have tlen := oT.hi
  have cnd : ((ctb tb).map (·.1)).Nodup := by rw [ctb_keys]; exact sortS_nodup oT.nd
  refine q_of (s_for (Pre := Fr0) (G0 := G) (H0 := H0) (ds := srtD tb) (up := upN 6 fun p => .str p.1) (Iv := fun i σ2 G3 H3 => (∃ s6 s7, σ2 = [some (.ref x), some (.ref a), some (.ref b), some (.ref m), v4, v5, s6, s7, none]) ∧ Own H0 G3 x H3 (.ins (He.ga K "Schema") dx [("kept_tables", .ref d)]) ∧ (∃ ks, Own H0 G3 d H3 (.dK ks) ∧ PrD FsV G3 ks ((ctb tb).take i)) ∧ Same G2 G3)
    st6 ((gi_listN (ds := sortS (tb.map (·.1))) (emb := V.str) (gl_sortedD (ks := tb.map (·.1)) (gv_var rfl) ha1 ha2.keys (by rw [List.length_map]; omega))).from_ (fun p => p.1) (srtD_keys tb).symm fun _ _ _ => rfl) trivial (fun i σ' G' H1 H2 e h => ⟨h.1, h.2.1.grow e, let ⟨ks, h1, h2⟩ := h.2.2.1; ⟨ks, h1.grow e, h2⟩, h.2.2.2⟩)
    (fun G1 H1 s1 => ⟨⟨_, _, rfl⟩, wx6.step s1, ⟨[], wd.step s1, .nil⟩, s1.ex⟩) (fun G1 H1 s1 i p hp σ2 G3 H3 lp iv => ?_) fun G3 H3 σ2 lp iv => ?_)
  · obtain ⟨⟨s6, s7, rfl⟩, wx, ⟨ks, wd, hks⟩, eG⟩ := iv
    have hpm := srtD_mem.mp (List.mem_of_getElem? hp)
    obtain ⟨v1, e1, fv⟩ := ((ha2.mono fs_mono eG).get p.1).1 p.2 (valD_of oT.nd hpm)
    obtain ⟨fa, rfl, fkv, hf1, hf2⟩ := fv
    have okf := oT.ok p hpm
    have hlen := okf.len
    refine q_set lp.st.sub (gv_dget (k := Sum.inr p.1) (gv_var rfl) (gv_var rfl) (eG _ _ ha1) e1) fun H4 e4 => ?_
    replace lp := lp.grow e4; replace wx := wx.grow e4; replace wd := wd.grow e4
    refine s_dput lp.st.sub (ge_gm (Φ := fun v G' => FsV v (cfs p.2) G') (gm_dc (ds := srtD p.2) (up := upN 8 fun q => .str q.1) (fun q => Sum.inr q.1) (fun q v G' => FldAt v (cfld q.2) G') (fun d v G1 G2 e r => fld_mono _ _ _ _ e r)
      ((gi_listN (ds := sortS (p.2.map (·.1))) (emb := V.str) (gl_sortedD (ks := p.2.map (·.1)) (gv_var rfl) hf1 hf2.keys (by rw [List.length_map]; omega))).from_ (fun q => q.1) (srtD_keys p.2).symm fun _ _ _ => rfl) (by rw [srtD_len]; omega) (fun _ _ => rfl) (pw_inr (srtD_nodup okf.nd)) (fun q hq G' e => gv_var rfl) (fun q hq G' e => ?_) fun _ _ _ _ => trivial) fun c o G' e gc hx => ?_) fun v G5 H5 s5 hv => ?_
    · obtain ⟨v2, e2, f2⟩ := ((hf2.mono fld_mono e).get q.1).1 q.2 (valD_of okf.nd (srtD_mem.mp hq))
      exact ge_call (ga_cons (gv_dget (k := Sum.inr q.1) (gv_var rfl) (gv_var rfl) (e _ _ hf1) e2) ga_nil) (sx_copF f2 (okf.ok q (srtD_mem.mp hq)))
    · obtain ⟨fks, rfl, al⟩ := hx
      refine ⟨c, rfl, fks, upd_same, ?_⟩
      have := all2_zipmap (R := fun (kv : Key × V) (q : Str × Fld) => kv.1 = Sum.inr q.1 ∧ FldAt kv.2 q.2 G') (f := fun q : Str × Fld => (q.1, cfld q.2)) al
      exact PrD.mono fld_mono (Same.put gc) this
    · replace lp := lp.step s5; replace wx := wx.step s5; replace wd := wd.step s5
      replace hks := hks.mono fs_mono s5.ex
      have hci : (ctb tb)[i]? = some (p.1, cfs p.2) := by unfold ctb; rw [List.getElem?_map, hp]; rfl
      have nk : valV ks (Sum.inr p.1) = none := (hks.get p.1).2 (valD_take_none (p := (p.1, cfs p.2)) cnd hci)
      have kl : ks.length ≤ 3 := by rw [hks.length, List.length_take]; unfold ctb; rw [List.length_map, srtD_len]; omega
      refine ⟨upd G5 x (.ins (He.ga K "Schema") dx [("kept_tables", .ref d)]), d, Sum.inr p.1, ks, lp.st.sub.put wx.at_, gv_fld (gv_var rfl) upd_same T.cl_Schema T.na_kept_tables rfl, gv_var rfl, wd.at_, by rw [sizeLine_eq]; omega, fun H6 e6 => ⟨G5, (lp.grow e6).write (wd.grow e6) (by simp), ⟨_, _, rfl⟩, (wx.grow e6).other nxd, ⟨_, (wd.grow e6).write, ?_⟩, eG.trans s5.ex⟩⟩
      rw [putK_new _ nk]
      exact all2_snocD (p := (p.1, cfs p.2)) hks hci hv
  obtain ⟨⟨s6, s7, rfl⟩, wx, ⟨ks, wd, hks⟩, eG⟩ := iv
  replace st := lp.st
  have htk : (ctb tb).take (srtD tb).length = ctb tb := List.take_of_length_le (by unfold ctb; rw [List.length_map]; exact Nat.le_refl _)
  rw [htk] at hks
  have st' := st.tell wd.g wd.h0 wd.at_
  have wx' : Own H0 (upd G3 d (.dK ks)) x H3 (.ins (He.ga K "Schema") dx [("kept_tables", .ref d)]) := ⟨wx.h0, by rw [upd_ne nxd]; exact wx.g, wx.at_⟩
  have eG' := eG.trans (Same.put (o := .dK ks) wd.g)
  refine s_fld st'.sub (ge_gm (Φ := fun v G' => ∃ l, v = V.ref l ∧ RsAt G' l rs) (gm_lc (pf := fun _ => true) (ds := rvs.zip rs) (up := upN 5 fun q => q.1) (fun (q : V × Rul) v' G' => RulV v' q.2 G') (fun d v G1 G2 e r => rul_mono _ _ _ _ e r) (gi_list (ds := rvs.zip rs) (emb := fun q => q.1) (gv_var rfl) (by rw [← z1]; exact eG' _ _ hr1)) (by rw [List.length_zip]; omega) (fun _ _ => rfl) (fun d hd G' e => gt_yes) (fun q hq _ G' e => ge_call (ga_cons (gv_var rfl) ga_nil) (sx_copR (r := q.2) (rul_mono _ _ _ _ (eG'.trans e) (z3 q hq)) ?_)) fun _ _ _ _ => trivial) fun p o G' e gp hx => ?_) fun v G5 H5 s5 hv => ?_
  · exact (oR.ok _ (by rw [z2]; exact List.mem_map.mpr ⟨q, hq, rfl⟩)).dp
  · obtain ⟨xs, rfl, al⟩ := hx
    rw [List.filter_eq_self.mpr (fun _ _ => rfl)] at al
    refine ⟨p, rfl, xs, upd_same, ?_⟩
    have := all2_zipmap (R := fun v t => RulV v t G') (f := fun q : V × Rul => q.2) al
    rw [← z2] at this
    exact this.imp fun _ _ _ _ r => rul_mono _ _ _ _ (Same.put gp) r
  · obtain ⟨l, rfl, hl⟩ := hv
    replace wx' := wx'.step s5
    replace st' := st'.trans s5
    refine ⟨upd G5 x (.ins (He.ga K "Schema") dx [("kept_tables", .ref d)]), x, _, dx, _, st'.sub.put wx'.at_, gv_var rfl, wx'.at_, T.cl_Schema, T.na_kept_rules, by simp, fun H6 e6 => ?_⟩
    exact k G5 _ d l ((st'.grow e6).writeO (wx'.grow e6)) (wx'.grow e6).write ⟨ks, s5.ex _ _ upd_same, (hks.mono fs_mono (Same.put wd.g)).mono fs_mono s5.ex⟩ hl
end
end K25

/-! F9 -/
namespace K25
open PySem PySem.Spec PyProof.Rows L2
/-- a schema -/
def SchAt (C : Addr) (G : Hp) (a : Addr) (tb : Tbs) (rs : List Rul) : Prop := ∃ dx d l, G a = some (.ins C dx (insS d l)) ∧ TbsAt G d tb ∧ RsAt G l rs
theorem SchAt.mono {C : Addr} {G G' : Hp} {a : Addr} {tb : Tbs} {rs : List Rul} (e : Same G G') (h : SchAt C G a tb rs) : SchAt C G' a tb rs := let ⟨dx, d, l, h1, h2, h3⟩ := h; ⟨dx, d, l, e _ _ h1, h2.mono fs_mono e, h3.mono rul_mono e⟩
/-- names of the fields of a sort -/
def fLike (fs : Flds) (so : Str) : List Str := (fs.filter fun f => decide (f.2.sort = so)).map (·.1)
theorem map_str {α : Type} (l : List α) (f : α → Str) : l.map (fun x => V.str (f x)) = (l.map f).map V.str := by rw [List.map_map]; rfl
section
variable {P : Program} {w : World} {K : PySem.W.Frag} {mg : Str → Option Value} {base : Heap}
def spSTables (C : Addr) : Sp := fun vs H Q _ => ∃ a tb rs G, vs = [.ref a] ∧ Sub G H ∧ SchAt C G a tb rs ∧ ∀ p H', Same H H' → H p = none → H' p = some (sL (tb.map (·.1))) → Q (.ref p) H'
abbrev N_Schema_tables : List Str := ["self"]
theorem sc_Schema_tables : FnScope N_Schema_tables ["self"] (defScope s_Schema_tables) := ⟨rfl, rfl, rfl, by decide +kernel, rfl, by decide +kernel, by decide +kernel⟩
-- slots: 0 self
theorem c_Schema_tables (T : Tx K mg) : Met P w K mg base 1 (He.ga K "Schema") "tables" (spSTables (He.ga K "Schema")) := by
  refine ⟨_, _, ["self"], T.cl_Schema, T.m_Schema_tables, fn_body T.f_Schema_tables sc_Schema_tables (fun vs H Q E h => by obtain ⟨_, _, _, _, rfl, _⟩ := h; rfl) (fun cdv A outer s H vs Q E hr h => ?_), T.f_Schema_tables.bindsN fun _ _ _ _ _ _ us hl => match us, hl with | [_], _ => rfl⟩
  obtain ⟨a, tb, rs, G, rfl, sG, ⟨dx, d, l, h1, ⟨kvs, h2, h3⟩, h4⟩, k⟩ := h
  have hu := hu_of hr
  refine ⟨_,
    (pss_one (ps_ret (pe_callTy (cr_listD rfl) (by rfl) T.b_list (by decide +kernel) (pa_cons (pe_fldK rfl (pv 0) rfl) pa_nil)))), ?_⟩
  exact s_retN sG (gl_listD (gv_fld (gv_var rfl) h1 T.cl_Schema T.na_kept_tables rfl) h2 h3.ks) k
def spSLike (C : Addr) : Sp := fun vs H Q _ => ∃ a t so tb rs fs G, vs = [.ref a, .str t, .str so] ∧ Sub G H ∧ SchAt C G a tb rs ∧ TbsOk tb ∧ valD tb t = some fs ∧ ∀ p H', Same H H' → H p = none → H' p = some (sL (fLike fs so)) → Q (.ref p) H'
abbrev N_Schema_fields_like : List Str := ["self", "table", "sort", "kept", "name"]
theorem sc_Schema_fields_like : FnScope N_Schema_fields_like ["self", "table", "sort"] (defScope s_Schema_fields_like) := ⟨rfl, rfl, rfl, by decide +kernel, rfl, by decide +kernel, by decide +kernel⟩
-- slots: 0 self, 1 table, 2 sort*, 3 kept*, 4 name
theorem c_Schema_fields_like (T : Tx K mg) : Met P w K mg base 1 (He.ga K "Schema") "fields_like" (spSLike (He.ga K "Schema")) := by
  refine ⟨_, _, ["self", "table", "sort"], T.cl_Schema, T.m_Schema_fields_like, fn_body T.f_Schema_fields_like sc_Schema_fields_like (fun vs H Q E h => by obtain ⟨_, _, _, _, _, _, _, rfl, _⟩ := h; rfl) (fun cdv A outer s H vs Q E hr h => ?_), T.f_Schema_fields_like.bindsN fun _ _ _ _ _ _ us hl => match us, hl with | [_, _, _], _ => rfl⟩
  obtain ⟨a, t, so, tb, rs, fs, G, rfl, sG, ⟨dx, d, l, h1, h2, h4⟩, ok, e, k⟩ := h
  have hu := hu_of hr
  refine ⟨_,
    (pss_cons (ps_set (i := 3) sc_Schema_fields_like.nd rfl (Or.inr rfl) (pe_dget hu (pe_fldK rfl (pv 0) rfl) (pv 1) (fun _ _ => rfl)))
    (pss_one (ps_ret (pe_lk (pe_lc rfl sc_Schema_fields_like.nd (pi_keys (pv 3)) (blkOk_by (own := [("name", 4)]) (N := N_Schema_fields_like) (sc := defScope s_Schema_fields_like) (by decide +kernel)) (fun _ _ _ _ _ => (pg_name (i := 4) sc_Schema_fields_like.nd rfl (Or.inl rfl))) (fun _ _ _ _ _ => (pts_one (pt_cmpR op_eq (pe_ix (ix_tupK rfl) (pe_dget hu (pv 3) (pv 4) (fun _ _ => rfl)) pe_int (fun _ _ => rfl)) (pv 2) (nomark _)))) (fun _ _ _ _ _ => (pv 4))))))), ?_⟩
  obtain ⟨kvs, v, hd, hv, b, rfl, fk, hb, hp⟩ := h2.get e
  have okf := (ok.fs e).1
  have hlen := okf.len
  refine q_set sG (gv_dget (k := Sum.inr t) (gv_fld (gv_var rfl) h1 T.cl_Schema T.na_kept_tables rfl) (gv_var rfl) hd hv) fun H1 e1 => ?_
  refine s_retN (sG.same e1) (gn_eq ?_ (gl_lcK hb (pf := fun f : Str × Fld => decide (f.2.sort = so)) (fun f => V.str f.1) (gi_keysD (gv_var rfl) hp) (by omega) (fun _ _ => rfl) (fun f hf => ?_) fun f hf _ => gv_var rfl)) fun p H2 e2 h0 h2 => k p H2 (e1.trans e2) (e1.free h0) h2
  · rw [map_str]; rfl
  · obtain ⟨z1, z2⟩ := hp.at_ (valD_of okf.nd hf)
    obtain ⟨c, r, ec, hc⟩ := z2.any
    exact gt_test (gv_eq (by simp) (gv_op (gv_op (gv_eq ec (gv_dget (k := Sum.inr f.1) (gv_var rfl) (gv_var rfl) hb z1)) gv_c (rv_ixT hc (at0 _ _))) (gv_var rfl) (rv_eq rfl)))
def spSLk (C : Addr) (so : Str) : Sp := fun vs H Q _ => ∃ a t tb rs fs G, vs = [.ref a, .str t] ∧ Sub G H ∧ SchAt C G a tb rs ∧ TbsOk tb ∧ valD tb t = some fs ∧ ∀ p H', Same H H' → H p = none → H' p = some (sL (fLike fs so)) → Q (.ref p) H'
abbrev N_Schema_links : List Str := ["self", "table"]
theorem sc_Schema_links : FnScope N_Schema_links ["self", "table"] (defScope s_Schema_links) := ⟨rfl, rfl, rfl, by decide +kernel, rfl, by decide +kernel, by decide +kernel⟩
-- slots: 0 self, 1 table
theorem c_Schema_links (T : Tx K mg) : Met P w K mg base 2 (He.ga K "Schema") "links" (spSLk (He.ga K "Schema") "link") := by
  refine ⟨_, _, ["self", "table"], T.cl_Schema, T.m_Schema_links, fn_body T.f_Schema_links sc_Schema_links (fun vs H Q E h => by obtain ⟨_, _, _, _, _, _, rfl, _⟩ := h; rfl) (fun cdv A outer s H vs Q E hr h => ?_), T.f_Schema_links.bindsN fun _ _ _ _ _ _ us hl => match us, hl with | [_, _], _ => rfl⟩
  obtain ⟨a, t, tb, rs, fs, G, rfl, sG, hS, ok, e, k⟩ := h
  have hu := hu_of hr
  refine ⟨_,
    (pss_one (ps_ret (pe_met (c_Schema_fields_like T) hr (by decide) (pv 0) (pa_cons (pv 1) (pa_cons pe_str pa_nil))))), ?_⟩
  obtain ⟨dx, d, l, h1, h2, h4⟩ := id hS
  exact s_retN sG (gn_meth (gv_var rfl) h1 rfl (ga_cons (gv_var rfl) (ga_cons gv_c ga_nil)) fun H s Q E q => ⟨a, t, "link", tb, rs, fs, G, rfl, s, hS, ok, e, q⟩) k
abbrev N_Schema_tags : List Str := ["self", "table"]
theorem sc_Schema_tags : FnScope N_Schema_tags ["self", "table"] (defScope s_Schema_tags) := ⟨rfl, rfl, rfl, by decide +kernel, rfl, by decide +kernel, by decide +kernel⟩
-- slots: 0 self, 1 table
theorem c_Schema_tags (T : Tx K mg) : Met P w K mg base 2 (He.ga K "Schema") "tags" (spSLk (He.ga K "Schema") "tag") := by
  refine ⟨_, _, ["self", "table"], T.cl_Schema, T.m_Schema_tags, fn_body T.f_Schema_tags sc_Schema_tags (fun vs H Q E h => by obtain ⟨_, _, _, _, _, _, rfl, _⟩ := h; rfl) (fun cdv A outer s H vs Q E hr h => ?_), T.f_Schema_tags.bindsN fun _ _ _ _ _ _ us hl => match us, hl with | [_, _], _ => rfl⟩
  obtain ⟨a, t, tb, rs, fs, G, rfl, sG, hS, ok, e, k⟩ := h
  have hu := hu_of hr
  refine ⟨_,
    (pss_one (ps_ret (pe_met (c_Schema_fields_like T) hr (by decide) (pv 0) (pa_cons (pv 1) (pa_cons pe_str pa_nil))))), ?_⟩
  obtain ⟨dx, d, l, h1, h2, h4⟩ := id hS
  exact s_retN sG (gn_meth (gv_var rfl) h1 rfl (ga_cons (gv_var rfl) (ga_cons gv_c ga_nil)) fun H s Q E q => ⟨a, t, "tag", tb, rs, fs, G, rfl, s, hS, ok, e, q⟩) k
def spSLeads (C : Addr) : Sp := fun vs H Q _ => ∃ a t f tb rs fs u G, vs = [.ref a, .str t, .str f] ∧ Sub G H ∧ SchAt C G a tb rs ∧ valD tb t = some fs ∧ valD fs f = some (.link u) ∧ ∀ H', Same H H' → Q (.str u) H'
theorem sv_leads {C : Addr} {G : Hp} {a : Addr} {t f u : Str} {tb : Tbs} {rs : List Rul} {fs : Flds} (h1 : SchAt C G a tb rs) (h2 : valD tb t = some fs) (h3 : valD fs f = some (.link u)) : Sv (spSLeads C) [.ref a, .str t, .str f] G (.str u) := fun H s Q E q => ⟨a, t, f, tb, rs, fs, u, G, rfl, s, h1, h2, h3, q⟩
abbrev N_Schema_leads_to : List Str := ["self", "table", "link"]
theorem sc_Schema_leads_to : FnScope N_Schema_leads_to ["self", "table", "link"] (defScope s_Schema_leads_to) := ⟨rfl, rfl, rfl, by decide +kernel, rfl, by decide +kernel, by decide +kernel⟩
-- slots: 0 self, 1 table, 2 link
theorem c_Schema_leads_to (T : Tx K mg) : Met P w K mg base 1 (He.ga K "Schema") "leads_to" (spSLeads (He.ga K "Schema")) := by
  refine ⟨_, _, ["self", "table", "link"], T.cl_Schema, T.m_Schema_leads_to, fn_body T.f_Schema_leads_to sc_Schema_leads_to (fun vs H Q E h => by obtain ⟨_, _, _, _, _, _, _, _, rfl, _⟩ := h; rfl) (fun cdv A outer s H vs Q E hr h => ?_), T.f_Schema_leads_to.bindsN fun _ _ _ _ _ _ us hl => match us, hl with | [_, _, _], _ => rfl⟩
  obtain ⟨a, t, f, tb, rs, fs, u, G, rfl, sG, ⟨dx, d, l, h1, h2, h4⟩, e, e2, k⟩ := h
  have hu := hu_of hr
  refine ⟨_,
    (pss_one (ps_ret (pe_ix (ix_tupK rfl) (pe_dget hu (pe_dget hu (pe_fldK rfl (pv 0) rfl) (pv 1) (fun _ _ => rfl)) (pv 2) (fun _ _ => rfl)) pe_int (fun _ _ => rfl)))), ?_⟩
  obtain ⟨kvs, v, hd, hv, b, rfl, hf⟩ := h2.get e
  obtain ⟨fk, v2, hb, hv2, c, rfl, hc⟩ := hf.get e2
  exact s_ret sG (gv_op (gv_dget (k := Sum.inr f) (gv_dget (k := Sum.inr t) (gv_fld (gv_var rfl) h1 T.cl_Schema T.na_kept_tables rfl) (gv_var rfl) hd hv) (gv_var rfl) hb hv2) gv_c (rv_ixT hc rfl)) k
def spSNames (C : Addr) : Sp := fun vs H Q _ => ∃ a tb rs G, vs = [.ref a] ∧ Sub G H ∧ SchAt C G a tb rs ∧ rs.length ≤ 4 ∧ ∀ p H', Same H H' → H p = none → H' p = some (sL (rs.map Rul.name)) → Q (.ref p) H'
abbrev N_Schema_names : List Str := ["self", "rule"]
theorem sc_Schema_names : FnScope N_Schema_names ["self"] (defScope s_Schema_names) := ⟨rfl, rfl, rfl, by decide +kernel, rfl, by decide +kernel, by decide +kernel⟩
-- slots: 0 self, 1 rule
theorem c_Schema_names (T : Tx K mg) : Met P w K mg base 1 (He.ga K "Schema") "names" (spSNames (He.ga K "Schema")) := by
  refine ⟨_, _, ["self"], T.cl_Schema, T.m_Schema_names, fn_body T.f_Schema_names sc_Schema_names (fun vs H Q E h => by obtain ⟨_, _, _, _, rfl, _⟩ := h; rfl) (fun cdv A outer s H vs Q E hr h => ?_), T.f_Schema_names.bindsN fun _ _ _ _ _ _ us hl => match us, hl with | [_], _ => rfl⟩
  obtain ⟨a, tb, rs, G, rfl, sG, ⟨dx, d, l, h1, h2, rvs, h4, h5⟩, rl, k⟩ := h
  have hu := hu_of hr
  refine ⟨_,
    (pss_one (ps_ret (pe_lc rfl sc_Schema_names.nd (pi_listK rfl (pe_fldK rfl (pv 0) rfl)) (blkOk_by (own := [("rule", 1)]) (N := N_Schema_names) (sc := defScope s_Schema_names) (by decide +kernel)) (fun _ _ _ _ _ => (pg_name (i := 1) sc_Schema_names.nd rfl (Or.inl rfl))) (fun _ _ _ _ _ => pts_nil) (fun _ _ _ _ _ => (pe_ix (ix_tupK rfl) (pv 1) pe_int (fun _ _ => rfl)))))), ?_⟩
  obtain ⟨z1, z2, z3⟩ := h5.zip
  refine s_retN sG (gn_eq ?_ (gl_lc (pf := fun _ => true) (ds := rvs.zip rs) (fun q => V.str q.2.name) (gi_list (emb := fun q => q.1) (gv_fld (gv_var rfl) h1 T.cl_Schema T.na_kept_rules rfl) (by rw [← z1]; exact h4)) (by rw [List.length_zip]; omega) (fun _ _ => rfl) (fun _ _ => gt_yes) fun q hq _ => ?_)) k
  · rw [List.filter_eq_self.mpr (fun _ _ => rfl)]
    unfold sL
    conv => rhs; rw [z2]
    rw [List.map_map, List.map_map]
    rfl
  · obtain ⟨c, x, xs, ec, hc⟩ := (z3 q hq).any
    exact gv_op (gv_eq ec (gv_var rfl)) gv_c (rv_ixT hc (at0 _ _))
theorem gv_index {G : Hp} {σ : L2.St} {tl tk : TE} {ys : List Str} {y : Str} {j : Nat} (h : Gls tl σ G (ys.map V.str)) (hk : ∀ q o, G q = none → Gv tk σ (upd G q o) (.str y)) (nd : ys.Nodup) (hj : ys[j]? = some y) : Gv (tBM K "list" (rIndex K) tl (tCons tk tNil)) σ G (.int (j : Nat)) := fun H s Q q =>
  h H s _ fun p H1 e1 hp h1 => ⟨.inl ⟨rfl, _, SqL.of h1⟩, ga_cons (hk p _ (s.non hp)) ga_nil H1 ((s.same e1).put h1) _ fun H2 e2 => ⟨p, ys.map V.str, .str y, j, .str y, rfl, rfl, SqL.of (e2 _ _ h1), rfl, flat_strs ys, by rw [List.getElem?_map, hj]; rfl, by simp [eqV], fun m z' hm hz => by
    rw [List.getElem?_map] at hz
    cases e : ys[m]? with
    | none => rw [e] at hz; cases hz
    | some u =>
      rw [e] at hz
      have : V.str u = z' := Option.some.inj hz
      subst this
      rw [eqV_str]
      refine decide_eq_false fun eu => ?_
      subst eu
      obtain ⟨p1, q1⟩ := List.getElem?_eq_some_iff.mp hj
      obtain ⟨p2, q2⟩ := List.getElem?_eq_some_iff.mp e
      have := (List.getElem_inj nd).mp (q1.trans q2.symm)
      omega, q H2 (e1.trans e2)⟩⟩
def spSRank (C : Addr) : Sp := fun vs H Q _ => ∃ a tb rs r j G, vs = [.ref a, .str (Rul.name r)] ∧ Sub G H ∧ SchAt C G a tb rs ∧ rs.length ≤ 4 ∧ (rs.map Rul.name).Nodup ∧ rs[j]? = some r ∧ ∀ H', Same H H' → Q (.int (j : Nat)) H'
abbrev N_Schema_rank_of : List Str := ["self", "name"]
theorem sc_Schema_rank_of : FnScope N_Schema_rank_of ["self", "name"] (defScope s_Schema_rank_of) := ⟨rfl, rfl, rfl, by decide +kernel, rfl, by decide +kernel, by decide +kernel⟩
-- slots: 0 self, 1 name
theorem c_Schema_rank_of (T : Tx K mg) : Met P w K mg base 2 (He.ga K "Schema") "rank_of" (spSRank (He.ga K "Schema")) := by
  refine ⟨_, _, ["self", "name"], T.cl_Schema, T.m_Schema_rank_of, fn_body T.f_Schema_rank_of sc_Schema_rank_of (fun vs H Q E h => by obtain ⟨_, _, _, _, _, _, rfl, _⟩ := h; rfl) (fun cdv A outer s H vs Q E hr h => ?_), T.f_Schema_rank_of.bindsN fun _ _ _ _ _ _ us hl => match us, hl with | [_, _], _ => rfl⟩
  obtain ⟨a, tb, rs, r, j, G, rfl, sG, hS, rl, nd, e, k⟩ := h
  have hu := hu_of hr
  refine ⟨_,
    (pss_one (ps_ret (pe_bmK rfl PySem.F.plainAttrs_list PySem.F.slot_list_index PySem.F.type_list_index (mt_indexK rfl) (pe_met0 (c_Schema_names T) hr (by decide) (pv 0)) (pa_cons (pv 1) pa_nil)))), ?_⟩
  obtain ⟨dx, d, l, h1, h2, h4⟩ := id hS
  exact s_ret sG (gv_index (gn_meth (gv_var rfl) h1 rfl ga_nil fun H s Q E q => ⟨a, tb, rs, G, rfl, s, hS, rl, q⟩) (fun q o hq => gv_var rfl) nd (by rw [List.getElem?_map, e]; rfl)) k
def spSRule (C : Addr) : Sp := fun vs H Q _ => ∃ a tb rs r G, vs = [.ref a, .str (Rul.name r)] ∧ Sub G H ∧ SchAt C G a tb rs ∧ rs.length ≤ 4 ∧ (rs.map Rul.name).Nodup ∧ r ∈ rs ∧ RulDp r ∧ ∀ v' G' H', Stp G H G' H' → RulV v' r G' → Q v' H'
abbrev N_Schema_rule_of : List Str := ["self", "name"]
theorem sc_Schema_rule_of : FnScope N_Schema_rule_of ["self", "name"] (defScope s_Schema_rule_of) := ⟨rfl, rfl, rfl, by decide +kernel, rfl, by decide +kernel, by decide +kernel⟩
-- slots: 0 self, 1 name
theorem c_Schema_rule_of (T : Tx K mg) : Met P w K mg base 7 (He.ga K "Schema") "rule_of" (spSRule (He.ga K "Schema")) := by
  refine ⟨_, _, ["self", "name"], T.cl_Schema, T.m_Schema_rule_of, fn_body T.f_Schema_rule_of sc_Schema_rule_of (fun vs H Q E h => by obtain ⟨_, _, _, _, _, rfl, _⟩ := h; rfl) (fun cdv A outer s H vs Q E hr h => ?_), T.f_Schema_rule_of.bindsN fun _ _ _ _ _ _ us hl => match us, hl with | [_, _], _ => rfl⟩
  obtain ⟨a, tb, rs, r, G, rfl, sG, hS, rl, nd, hm, dp, k⟩ := h
  have hu := hu_of hr
  refine ⟨_,
    (pss_one (ps_ret (pe_cal (c_copied_rule T) hr (by decide) rfl (pa_cons (pe_ix (ix_listK rfl) (pe_fldK rfl (pv 0) rfl) (pe_met (c_Schema_rank_of T) hr (by decide) (pv 0) (pa_cons (pv 1) pa_nil)) (fun _ _ => rfl)) pa_nil)))), ?_⟩
  obtain ⟨dx, d, l, h1, h2, rvs, h4, h5⟩ := id hS
  obtain ⟨j, hj, ej⟩ := List.mem_iff_getElem.mp hm
  have e : rs[j]? = some r := by rw [List.getElem?_eq_getElem hj, ej]
  obtain ⟨v, ev, hv⟩ := h5.at e
  exact s_retX sG (ge_call (ga_cons (gv_op (gv_fld (gv_var rfl) h1 T.cl_Schema T.na_kept_rules rfl) (gv_meth (gv_var rfl) h1 rfl (ga_cons (gv_var rfl) ga_nil) fun H s Q E q => ⟨a, tb, rs, r, j, G, rfl, s, hS, rl, nd, e, q⟩) (rv_ixL h4 (atN ev))) ga_nil) (sx_copR hv dp)) k
/-! ### rows -/
def FldV : Fld → Option Str → Prop
  | .mark ws, x => ∃ s, x = some s ∧ s ∈ ws ∧ Nm s
  | _, x => ∀ s, x = some s → Nm s
def spSVal (C : Addr) : Sp := fun vs H Q _ => ∃ a t f x tb rs fs g G, vs = [.ref a, .str t, .str f, ov x] ∧ Sub G H ∧ SchAt C G a tb rs ∧ valD tb t = some fs ∧ valD fs f = some g ∧ FldV g x ∧ ∀ H', Same H H' → Q (.bl true) H'
abbrev N_Schema_is_value : List Str := ["self", "table", "field", "thing", "word"]
theorem sc_Schema_is_value : FnScope N_Schema_is_value ["self", "table", "field", "thing"] (defScope s_Schema_is_value) := ⟨rfl, rfl, rfl, by decide +kernel, rfl, by decide +kernel, by decide +kernel⟩
-- slots: 0 self, 1 table, 2 field, 3 thing, 4 word
theorem c_Schema_is_value (T : Tx K mg) : Met P w K mg base 3 (He.ga K "Schema") "is_value" (spSVal (He.ga K "Schema")) := by
  refine ⟨_, _, ["self", "table", "field", "thing"], T.cl_Schema, T.m_Schema_is_value, fn_body T.f_Schema_is_value sc_Schema_is_value (fun vs H Q E h => by obtain ⟨_, _, _, _, _, _, _, _, _, rfl, _⟩ := h; rfl) (fun cdv A outer s H vs Q E hr h => ?_), T.f_Schema_is_value.bindsN fun _ _ _ _ _ _ us hl => match us, hl with | [_, _, _, _], _ => rfl⟩
  obtain ⟨a, t, f, x, tb, rs, fs, g, G, rfl, sG, ⟨dx, d, l, h1, h2, h4⟩, e, e2, hx, k⟩ := h
  have hu := hu_of hr
  refine ⟨_,
    (pss_cons (ps_set (i := 4) sc_Schema_is_value.nd rfl (Or.inl rfl) (pe_ix (ix_tupK rfl) (pe_dget hu (pe_dget hu (pe_fldK rfl (pv 0) rfl) (pv 1) (fun _ _ => rfl)) (pv 2) (fun _ _ => rfl)) pe_int (fun _ _ => rfl)))
    (pss_cons (ps_if (pt_cmpR op_eq (pv 4) pe_str (nomark _))
      (pss_one (ps_ret (pe_and (pe_cal (c_is_name T) hr (by decide) rfl (pa_cons (pv 3) pa_nil)) (pe_one (pe_cmpR (op_in_seqK rfl) (pv 3) (pe_ix (ix_tupK rfl) (pe_dget hu (pe_dget hu (pe_fldK rfl (pv 0) rfl) (pv 1) (fun _ _ => rfl)) (pv 2) (fun _ _ => rfl)) pe_int (fun _ _ => rfl)) (by rfl))))))
      pss_nil)
    (pss_one (ps_ret (pe_or (pe_cmpR op_isN (pv 3) pe_non (nomark _)) (pe_one (pe_ifExp (pt_cmpR op_eq (pv 4) pe_str (nomark _)) (pe_cal (c_is_id T) hr (by decide) rfl (pa_cons (pv 3) pa_nil)) (pe_cal (c_is_tag_name T) hr (by decide) rfl (pa_cons (pv 3) pa_nil))))))))), ?_⟩
  obtain ⟨kvs, v, hd, hv, b, rfl, hf⟩ := h2.get e
  obtain ⟨fk, v2, hb, hv2, hg⟩ := hf.get e2
  obtain ⟨c, r, rfl, hc⟩ := hg.any
  have fld : ∀ {σ : L2.St}, σ[0]? = some (some (.ref a)) → σ[1]? = some (some (.str t)) → σ[2]? = some (some (.str f)) → Gv (tDGet (tDGet (tFld K (tVar 0) "kept_tables") (tVar 1)) (tVar 2)) σ G (.ref c) := fun h h' h'' => gv_dget (k := Sum.inr f) (gv_dget (k := Sum.inr t) (gv_fld (gv_var h) h1 T.cl_Schema T.na_kept_tables rfl) (gv_var h') hd hv) (gv_var h'') hb hv2
  refine q_set sG (gv_op (fld rfl rfl rfl) gv_c (rv_ixT hc (at0 _ _))) fun H1 e1 => ?_
  replace sG := sG.same e1
  cases g with
  | mark ws =>
    obtain ⟨s, rfl, hs, hn⟩ := hx
    obtain ⟨a', l', e', g1, g2⟩ := hg
    cases e'
    refine q_yes sG (gt_test (gv_eq (by rfl) (gv_op (gv_var rfl) gv_c (rv_eq rfl)))) fun H2 e2 => ?_
    refine s_ret (sG.same e2) (gv_eq ?_ (gv_andV (b := true) (gv_call (ga_cons (v := .str s) (gv_var rfl) ga_nil) (sv_isName hn)) fun _ => gv_op (x := .str s) (gv_var rfl) (gv_op (fld rfl rfl rfl) gv_c (rv_ixT g1 rfl)) (rv_inS g2))) fun H3 e3 => k H3 ((e1.trans e2).trans e3)
    simp [hs]
  | link u =>
    refine q_no sG (gt_test (gv_eq (by rfl) (gv_op (gv_var rfl) gv_c (rv_eq rfl)))) fun H2 e2 => ?_
    refine s_ret (sG.same e2) (gv_eq (v := .bl (decide (ov x = .non) || true)) (by simp) (gv_orV (gv_op (gv_var rfl) gv_c rv_isN) fun hn => ?_)) fun H3 e3 => k H3 ((e1.trans e2).trans e3)
    cases x with
    | none => simp [ov] at hn
    | some s => exact gv_if (b := true) (gt_test (gv_eq (by rfl) (gv_op (gv_var rfl) gv_c (rv_eq rfl)))) (fun _ => gv_call (ga_cons (v := .str s) (gv_var rfl) ga_nil) (sv_isName (hx s rfl))) fun z => nomatch z
  | tag =>
    refine q_no sG (gt_test (gv_eq (by rfl) (gv_op (gv_var rfl) gv_c (rv_eq rfl)))) fun H2 e2 => ?_
    refine s_ret (sG.same e2) (gv_eq (v := .bl (decide (ov x = .non) || true)) (by simp) (gv_orV (gv_op (gv_var rfl) gv_c rv_isN) fun hn => ?_)) fun H3 e3 => k H3 ((e1.trans e2).trans e3)
    cases x with
    | none => simp [ov] at hn
    | some s => exact gv_if (b := false) (gt_test (gv_eq (by rfl) (gv_op (gv_var rfl) gv_c (rv_eq rfl)))) (fun z => nomatch z) fun _ => gv_call (ga_cons (v := .str s) (gv_var rfl) ga_nil) (sv_isName (hx s rfl))
/-- a row of a table -/
structure RowOk (fs : Flds) (r : Row) : Prop where
  nd : (r.map (·.1)).Nodup
  len : r.length = fs.length
  ok : ∀ q ∈ r, ∃ g, valD fs q.1 = some g ∧ FldV g q.2
theorem rowK_prd (G : Hp) (r : Row) : PrD (fun v x _ => v = ov x) G (rowK r) r := by
  unfold rowK PrD
  induction r with
  | nil => exact .nil
  | cons q r ih => exact .cons ⟨rfl, rfl⟩ ih
def spSRow (C : Addr) : Sp := fun vs H Q _ => ∃ a t b tb rs fs r G, vs = [.ref a, .str t, .ref b] ∧ Sub G H ∧ SchAt C G a tb rs ∧ TbsOk tb ∧ valD tb t = some fs ∧ G b = some (.dK (rowK r)) ∧ RowOk fs r ∧ ∀ H', Same H H' → Q (.bl true) H'
abbrev N_Schema_is_row : List Str := ["self", "table", "thing", "kept", "name"]
theorem sc_Schema_is_row : FnScope N_Schema_is_row ["self", "table", "thing"] (defScope s_Schema_is_row) := ⟨rfl, rfl, rfl, by decide +kernel, rfl, by decide +kernel, by decide +kernel⟩
-- slots: 0 self*, 1 table*, 2 thing*, 3 kept*, 4 name
theorem c_Schema_is_row (T : Tx K mg) : Met P w K mg base 4 (He.ga K "Schema") "is_row" (spSRow (He.ga K "Schema")) := by
  refine ⟨_, _, ["self", "table", "thing"], T.cl_Schema, T.m_Schema_is_row, fn_body T.f_Schema_is_row sc_Schema_is_row (fun vs H Q E h => by obtain ⟨_, _, _, _, _, _, _, _, rfl, _⟩ := h; rfl) (fun cdv A outer s H vs Q E hr h => ?_), T.f_Schema_is_row.bindsN fun _ _ _ _ _ _ us hl => match us, hl with | [_, _, _], _ => rfl⟩
  obtain ⟨a, t, b, tb, rs, fs, r, G, rfl, sG, hS, ok, e, hb, oR, k⟩ := h
  have hu := hu_of hr
  refine ⟨_,
    (pss_cons (ps_set (i := 3) sc_Schema_is_row.nd rfl (Or.inr rfl) (pe_dget hu (pe_fldK rfl (pv 0) rfl) (pv 1) (fun _ _ => rfl)))
    (pss_cons (ps_if (PW.pt (pw_or (pt_not (pt_val (pe_callB (call_isiK rfl) (by rfl) T.b_isinstance (by decide +kernel) (pa_cons (pv 2) (pa_cons (pe_bltn (v := .ty "dict") (by rfl) T.b_dict (by decide +kernel) rfl) pa_nil))))) (pw_or1 (pt_cmpR op_ne (pe_callB call_lenR (by rfl) T.b_len (by decide +kernel) (pa_cons (pv 2) pa_nil)) (pe_callB call_lenR (by rfl) T.b_len (by decide +kernel) (pa_cons (pv 3) pa_nil)) (nomark _)))))
      (pss_one (ps_ret pe_bl))
      pss_nil)
    (pss_one (ps_ret (pe_callB (cr_allK rfl rfl) (by rfl) T.b_all (by decide +kernel) (pa_cons (pe_lk (pe_lc rfl sc_Schema_is_row.nd (pi_keys (pv 2)) (blkOk_by (own := [("name", 4)]) (N := N_Schema_is_row) (sc := defScope s_Schema_is_row) (by decide +kernel)) (fun _ _ _ _ _ => (pg_name (i := 4) sc_Schema_is_row.nd rfl (Or.inl rfl))) (fun _ _ _ _ _ => pts_nil) (fun _ _ _ _ _ => (pe_and (pe_cal (c_is_name T) hr (by decide) rfl (pa_cons (pv 4) pa_nil)) (pe_and (pe_cmp (pc_din hu (pv 4) (pv 3))) (pe_one (pe_met (c_Schema_is_value T) hr (by decide) (pv 0) (pa_cons (pv 1) (pa_cons (pv 4) (pa_cons (pe_dget hu (pv 2) (pv 4) (fun _ _ => rfl)) pa_nil)))))))))) pa_nil)))))), ?_⟩
  obtain ⟨dx, d, l, h1, h2, h4⟩ := id hS
  obtain ⟨kvs, v, hd, hv, c, rfl, fk, hc, hf⟩ := h2.get e
  have okf := (ok.fs e).1
  have hlen := okf.len
  refine q_set sG (gv_dget (k := Sum.inr t) (gv_fld (gv_var rfl) h1 T.cl_Schema T.na_kept_tables rfl) (gv_var rfl) hd hv) fun H1 e1 => ?_
  replace sG := sG.same e1
  refine q_no sG (gt_eq ?_ (gt_or (gt_not (gt_B (gv_isiY (gv_var rfl) (ty_dK hb)))) fun _ => gt_test (gv_op (gv_lenD (n := r.length) (gv_var rfl) hb (by unfold rowK; rw [List.length_map])) (gv_lenD (n := fs.length) (gv_var rfl) hc (by rw [hf.length])) (rv_ne rfl)))) fun H2 e2 => ?_
  · simp [oR.len]
  replace sG := sG.same e2
  refine s_ret sG (gv_allYK hb (gi_keysD (gv_var rfl) (rowK_prd G r)) (by rw [oR.len]; omega) (fun _ _ => rfl) fun q hq => ?_) fun H3 e3 => k H3 ((e1.trans e2).trans e3)
  obtain ⟨g, eg, hg⟩ := oR.ok q hq
  exact gv_andV (b := true) (c := true) (gv_call (ga_cons (gv_var rfl) ga_nil) (sv_isName (nm_of okf eg))) fun _ => gv_andV (b := true) (c := true) (gv_eq (by rw [(hf.at_ eg).1]; rfl) (gv_din (k := Sum.inr q.1) (gv_var rfl) (gv_var rfl) hc)) fun _ =>
    gv_meth (gv_var rfl) h1 rfl (ga_cons (gv_var rfl) (ga_cons (gv_var rfl) (ga_cons (v := ov q.2) (gv_dget (k := Sum.inr q.1) (gv_var rfl) (gv_var rfl) hb (by rw [rowK_val, valD_of oR.nd hq]; rfl)) ga_nil))) fun H s Q E q' => ⟨a, t, q.1, q.2, tb, rs, fs, g, G, rfl, s, hS, e, eg, hg, q'⟩
end
end K25

/-! K13 -/
/-! K13: facts of the head that are beside the list; the property. -/
namespace K25
open PySem PySem.Spec PyProof.Rows L2
section
variable {P : Program} {w : World} {K : PySem.W.Frag} {mg : Str → Option Value} {base : Heap}
theorem Tx.parts (T : Tx K mg) : PySem.W.findIn K (.ref (He.ga K "Schema")) "__class__" = some (some (.builtin "object.__class__")) ∧ PySem.W.specialIn K (.builtin "object.__class__") "__get__" = some (some (.builtin "getset_descriptor.__get__")) ∧
    PySem.W.takesIn K (.builtin "object.__class__") = some true ∧ PySem.W.mroIn K (He.ga K "Schema") (.type "object") = some true ∧ PropOf K (He.ga K "Tables") "schema" (He.ma K (He.ga K "Tables") "schema") (gPr K) ∧
    (∃ oc od fd osl, K.lookup (gPr K) = some ⟨oc, od, .func fd, osl⟩ ∧ PySem.W.codeIn K fd.code "Tables.schema" = true ∧ He.dflB K fd.defaults [] = true) ∧ PySem.W.keepIn K (.ref (gPr K)) = true ∧ PySem.W.noSeq K (He.ga K "Tables") = true ∧ PySem.W.findIn K (.ref (He.ga K "Schema")) "__ne__" = some (some (.builtin "object.__ne__")) := by
  have h := T.xb
  unfold exB at h
  simp only [Bool.and_eq_true, decide_eq_true_eq] at h
  obtain ⟨h1, h2, h3, h4, h5, h6, h7, h8, h9, ⟨h10, h11⟩, h12, h13⟩ := h
  refine ⟨He.eqO_ok h1, h2, h3, h4, ⟨He.eqO_ok h6, h7, h8, ?_⟩, ?_, h10, h12, He.eqO_ok h13⟩
  · unfold gPr
    cases q : PySem.W.recIn K (He.ma K (He.ga K "Tables") "schema") "property" with
    | none => rw [q] at h9; cases h9
    | some l =>
      rw [q] at h9
      cases l with
      | nil => cases h9
      | cons v r =>
        cases v with
        | ref g => exact ⟨r, rfl⟩
        | _ => cases h9
  · cases q : K.lookup (gPr K) with
    | none => rw [q] at h11; cases h11
    | some o =>
      rw [q] at h11
      obtain ⟨oc, od, dt, osl⟩ := o
      cases dt with
      | func fd => exact ⟨oc, od, fd, osl, rfl, (Bool.and_eq_true_iff.mp h11).1, (Bool.and_eq_true_iff.mp h11).2⟩
      | _ => cases h11
theorem Tx.noSeq (T : Tx K mg) : PySem.W.noSeq K (He.ga K "Tables") = true := T.parts.2.2.2.2.2.2.2.1
theorem Tx.ne_Schema (T : Tx K mg) : PySem.W.findIn K (.ref (He.ga K "Schema")) "__ne__" = some (some (.builtin "object.__ne__")) := T.parts.2.2.2.2.2.2.2.2
theorem Tx.mro_Schema (T : Tx K mg) : PySem.W.mroIn K (He.ga K "Schema") (.type "object") = some true := T.parts.2.2.2.1
theorem ty_sch (T : Tx K mg) {G : Hp} {a dx : Addr} {fs : List (Str × V)} (h : G a = some (.ins (He.ga K "Schema") dx fs)) : Ty K G (.ref a) (.ref (He.ga K "Schema")) := fun H s =>
  .base (.ins (s.ins h) T.cl_Schema T.parts.1 T.parts.2.1 T.parts.2.2.1 T.mro_Schema)
theorem Tx.fn_getitem (T : Tx K mg) (f : Addr) (h : Meth K (He.ga K "Tables") "__getitem__" f) : PySem.W.fnIn K f = true := by
  have e := h.at_.symm.trans T.m_Tables_getitem.at_
  have e2 : f = He.ma K (He.ga K "Tables") "__getitem__" := by
    simp only [Option.some.injEq, Value.ref.injEq] at e
    exact e
  obtain ⟨oc, od, dV, kV, doc, pm, an, cdv, ct, osl, e3, lk, r⟩ := T.f_Tables_getitem.ex
  have lk2 : K.lookup f = some ⟨oc, od, .func (fdA K (He.fAd K d_Tables_getitem.at_)), osl⟩ := by rw [e2]; exact lk
  unfold PySem.W.fnIn
  rw [lk2]
/-- isinstance(x, Schema) -/
theorem gv_isSch (T : Tx K mg) {G : Hp} {σ : L2.St} {te : TE} {a dx : Addr} {fs : List (Str × V)} (hv : Gv te σ G (.ref a)) (h : G a = some (.ins (He.ga K "Schema") dx fs)) : Gv (tCB (rIsi K) (tCons te (tCons (tC (.ref (He.ga K "Schema"))) tNil))) σ G (.bl true) := gv_isi hv gv_c (.own _) (ty_sch T h) kit_self
/-! ### the property -/
theorem Tx.f_Tables_schema (T : Tx K mg) : ∃ fd, FunD K "schema" "Tables.schema" (defArgs s_Tables_schema) (defBody s_Tables_schema) (defScope s_Tables_schema) [] [] (gPr K) fd := by
  obtain ⟨oc, od, fd, osl, lk, hc, hd⟩ := T.parts.2.2.2.2.2.1
  have hw : fnWa K (gPr K) = valK.2.2 := congrArg (fun z : AlK => z.2.2) T.c
  unfold fnWa valK at hw
  rw [lk] at hw
  obtain ⟨n1, n2, n3, n4, n5, n6, n7, n8, n9, n10, n11, n12, n13, n14, n15⟩ := fd
  simp only [Option.some.injEq, Prod.mk.injEq] at hw
  obtain ⟨h1, h2, h3, h4, h5, h6, h7, h8⟩ := hw
  subst h1 h2 h3 h4 h5 h6 h7 h8
  exact ⟨_, ⟨oc, od, n8, n9, n10, n11, n12, n13, n14, osl, rfl, lk, hc, He.dflB_ok hd, .inl rfl⟩, T.parts.2.2.2.2.2.2.1⟩
structure Prp (P : Program) (w : World) (K : PySem.W.Frag) (mg : Str → Option Value) (base : Heap) (k : Nat) (C : Addr) (f : Str) (sp : Sp) : Prop where
  ex : ∃ (p g : Addr) (fd : FuncData) (ps : List Str), Cls K C ∧ PropOf K C f p g ∧ FnOk P w K mg base CX0 k g fd ps sp ∧ Binds K fd ps []
theorem pe_propR {X : Cx} {k j : Nat} {C : Addr} {f : Str} {sp : Sp} {e : Expr} {ta : TE} {pos : Pos} (c : Prp X.prog X.w X.K X.mg X.base k C f sp) (hr : Room j X.A) (hk : k + 1 ≤ j) (he : PE X e ta) (hab : attributeBase e f X.env (eval e X.env) = eval e X.env) : PE X (.Attribute e f pos) (tProp C sp [] E0 ta) := by
  obtain ⟨p, g, fd, ps, hc, hp, F, b⟩ := c.ex
  exact pe_prop he hc hp F (hr.mono hk) b .nil pass0 hab
def spProp (C : Addr) : Sp := fun vs H Q _ => ∃ a s k dx G, vs = [.ref a] ∧ Sub G H ∧ G a = some (.ins C dx [("its_schema", .ref s), ("kept", .ref k)]) ∧ ∀ H', Same H H' → Q (.ref s) H'
abbrev N_Tables_schema : List Str := ["self"]
theorem sc_Tables_schema : FnScope N_Tables_schema ["self"] (defScope s_Tables_schema) := ⟨rfl, rfl, rfl, by decide +kernel, rfl, by decide +kernel, by decide +kernel⟩
-- slots: 0 self
theorem c_Tables_schema (T : Tx K mg) : Prp P w K mg base 1 (He.ga K "Tables") "schema" (spProp (He.ga K "Tables")) := by
  obtain ⟨fd, F⟩ := T.f_Tables_schema
  refine ⟨_, _, fd, ["self"], T.cl_Tables, T.parts.2.2.2.2.1, fn_body F sc_Tables_schema (fun vs H Q E h => by obtain ⟨_, _, _, _, _, rfl, _⟩ := h; rfl) (fun cdv A outer s H vs Q E hr h => ?_), F.bindsN fun _ _ _ _ _ _ us hl => match us, hl with | [_], _ => rfl⟩
  obtain ⟨a, s, k, dx, G, rfl, sG, ha, q⟩ := h
  have hu := hu_of hr
  refine ⟨_,
    (pss_one (ps_ret (pe_fldK rfl (pv 0) rfl))), ?_⟩
  exact s_ret sG (gv_fld (gv_var rfl) ha T.cl_Tables T.na_its_schema rfl) q
end
end K25

/-! D2 -/
/-! D2: rows of tables; things that are written by a callee. -/
namespace K25
open PySem PySem.Spec PyProof.Rows L2
/-! ### the heap without some -/
def wo (M : List Addr) (H : Hp) : Hp := fun b => if b ∈ M then none else H b
section
variable {M : List Addr} {G0 H0 G H G' H' G1 H1 : Hp} {p q : Addr} {o : HO}
theorem wo_in (h : p ∈ M) : wo M H p = none := by unfold wo; rw [if_pos h]
theorem wo_out (h : p ∉ M) : wo M H p = H p := by unfold wo; rw [if_neg h]
theorem Stp.wo (s : Sub G H) : Stp G (K25.wo M H) G H := ⟨Same.refl _, s, fun a o h => by
  by_cases m : a ∈ M
  · rw [wo_in m] at h; cases h
  · rwa [wo_out m] at h, fun _ h _ => h⟩
theorem Stp.mut (st : Stp G0 H0 G H) (hM : ∀ m ∈ M, H0 m = none) (s : Stp G (K25.wo M H) G' H') : Stp G0 H0 G' H' := by
  have nm : ∀ a, H0 a ≠ none → a ∉ M := fun a h z => h (hM a z)
  refine ⟨st.ex.trans s.ex, s.sub, fun a o h => s.keep a o ?_, fun a h1 h2 => s.new a (st.new a h1 h2) ?_⟩
  · rw [wo_out (nm a (by rw [h]; simp))]; exact st.keep a o h
  · rw [wo_out (nm a h2)]
    cases z : H0 a with
    | none => exact absurd z h2
    | some o => rw [st.keep a o z]; simp
theorem Own.mut (w : Own H0 G q H o) (hq : q ∉ M) (s : Stp G (K25.wo M H) G' H') : Own H0 G' q H' o := by
  have e : K25.wo M H q = some o := by rw [wo_out hq]; exact w.at_
  exact ⟨w.h0, s.new q w.g (by rw [e]; simp), s.keep q o e⟩
theorem Own.of_wo (hM : q ∈ M) (g : G q = none) (h : H q = some o) : Own (K25.wo M H) G q H o := ⟨wo_in hM, g, h⟩
theorem Own.back (w : Own H0 G q H o) (w' : Own (K25.wo M H) G' q H' p') : Own H0 G' q H' p' := ⟨w.h0, w'.g, w'.at_⟩
theorem Lp.mut (l : Lp G0 H0 G1 H1 G H) (hM : ∀ m ∈ M, H0 m = none) (hf : ∀ m ∈ M, ∀ ob u, H m ≠ some (.frz ob u)) (s : Stp G (K25.wo M H) G' H') : Lp G0 H0 G1 H1 G' H' :=
  ⟨l.st.mut hM s, l.ex.trans s.ex, fun a ob u h => by
    have e := l.fz a ob u h
    have nm : a ∉ M := fun z => hf a z ob u e
    exact s.keep a _ (by rw [wo_out nm]; exact e)⟩
end
/-! ### lists by keys -/
section
variable {α : Type} {R : RelD α} {G : Hp}
def putD (l : List (Str × α)) (k : Str) (x : α) : List (Str × α) := if k ∈ l.map (·.1) then l.map (fun p => if p.1 = k then (p.1, x) else p) else l ++ [(k, x)]
def dropD (l : List (Str × α)) (k : Str) : List (Str × α) := l.filter fun p => decide (p.1 ≠ k)
theorem any_keys {kvs : List (Key × V)} {l : List (Str × α)} (h : PrD R G kvs l) (k : Str) : (kvs.any fun kv => decide (kv.1 = Sum.inr k)) = decide (k ∈ l.map (·.1)) := by
  rw [valV_any, h.some, valD_some]
theorem prD_put {kvs : List (Key × V)} {l : List (Str × α)} (h : PrD R G kvs l) {k : Str} {v : V} {x : α} (hv : R v x G) : PrD R G (putK kvs (Sum.inr k) v) (putD l k x) := by
  unfold putK putD
  rw [any_keys h]
  by_cases m : k ∈ l.map (·.1)
  · rw [if_pos (decide_eq_true m), if_pos m]
    clear m
    unfold PrD at h ⊢
    induction h with
    | nil => exact .nil
    | @cons kv p l m r _ ih =>
      simp only [List.map_cons]
      refine .cons ?_ ih
      by_cases e : p.1 = k
      · rw [if_pos (by rw [r.1, e]), if_pos e]
        exact ⟨r.1, hv⟩
      · rw [if_neg (by rw [r.1]; exact fun z => e (Sum.inr.inj z)), if_neg e]
        exact r
  · rw [if_neg (by simpa using m), if_neg m]
    exact All2.snoc h ⟨rfl, hv⟩
theorem prD_drop {kvs : List (Key × V)} {l : List (Str × α)} (h : PrD R G kvs l) (k : Str) : PrD R G (dropK kvs (Sum.inr k)) (dropD l k) := by
  unfold dropK dropD
  unfold PrD at h ⊢
  induction h with
  | nil => exact .nil
  | @cons kv p l m r _ ih =>
    rw [List.filter_cons, List.filter_cons]
    by_cases e : p.1 = k
    · rw [if_neg (by rw [r.1, e]; simp), if_neg (by simp [e])]
      exact ih
    · rw [if_pos (by rw [r.1]; simp; exact e), if_pos (by simp [e])]
      exact .cons r ih
end
/-! ### rows -/
abbrev Rws : Type := List (Str × (Str × Row))
def tOf (R : Rws) (t : Str) : List (Str × Row) := (R.filter fun q => decide (q.2.1 = t)).map fun q => (q.1, q.2.2)
def insT (s k : Addr) : List (Str × V) := [("its_schema", .ref s), ("kept", .ref k)]
/-- tables: the object, the dict by tables and the rows are told by G, the dicts of the rows by D -/
structure TabX (C : Addr) (G D : Hp) (a s : Addr) (tb : Tbs) (R : Rws) (k : Addr) (ad : Str → Addr) : Prop where
  ins : ∃ dx, G a = some (.ins C dx (insT s k))
  kept : G k = some (.dK (tb.map fun t => (Sum.inr t.1, V.ref (ad t.1))))
  inn : ∀ t ∈ tb.map (·.1), ∃ kvs, D (ad t) = some (.dK kvs) ∧ PrD RowV G kvs (tOf R t)
theorem TabX.mono {C : Addr} {G D G' D' : Hp} {a s : Addr} {tb : Tbs} {R : Rws} {k : Addr} {ad : Str → Addr} (h : TabX C G D a s tb R k ad) (e : Same G G') (e2 : ∀ t ∈ tb.map (·.1), ∀ o, D (ad t) = some o → D' (ad t) = some o) : TabX C G' D' a s tb R k ad :=
  ⟨let ⟨dx, i⟩ := h.ins; ⟨dx, e _ _ i⟩, e _ _ h.kept, fun t ht => let ⟨kvs, h1, h2⟩ := h.inn t ht; ⟨kvs, e2 t ht _ h1, h2.mono row_mono e⟩⟩
/-- a row that fits: the fields' names in their order -/
structure RowC (fs : Flds) (r : Row) : Prop where
  ks : r.map (·.1) = fs.map (·.1)
  ok : ∀ q ∈ r, ∃ g, valD fs q.1 = some g ∧ FldV g q.2
theorem RowC.rowOk {fs : Flds} {r : Row} (h : RowC fs r) (o : FsOk fs) : RowOk fs r := ⟨by rw [h.ks]; exact o.nd, by have := congrArg List.length h.ks; simpa using this, h.ok⟩
/-- the rows fit the tables -/
structure RwOk (tb : Tbs) (R : Rws) : Prop where
  nd : (R.map (·.1)).Nodup
  nm : ∀ q ∈ R, Nm q.1
  ok : ∀ q ∈ R, ∃ fs, valD tb q.2.1 = some fs ∧ RowC fs q.2.2
  len : R.length ≤ 10
theorem tOf_mem {R : Rws} {t i : Str} {r : Row} : (i, r) ∈ tOf R t ↔ (i, (t, r)) ∈ R := by
  unfold tOf
  rw [List.mem_map]
  constructor
  · rintro ⟨q, hq, e⟩
    obtain ⟨h1, h2⟩ := List.mem_filter.mp hq
    have h3 : q.2.1 = t := of_decide_eq_true h2
    obtain ⟨q1, q2, q3⟩ := q
    simp only [Prod.mk.injEq] at e
    obtain ⟨rfl, rfl⟩ := e
    subst h3
    exact h1
  · intro h
    exact ⟨_, List.mem_filter.mpr ⟨h, decide_eq_true rfl⟩, rfl⟩
theorem tOf_nodup {R : Rws} (h : (R.map (·.1)).Nodup) (t : Str) : ((tOf R t).map (·.1)).Nodup := by
  unfold tOf
  rw [List.map_map]
  have : ((fun x : Str × Row => x.1) ∘ fun q : Str × (Str × Row) => (q.1, q.2.2)) = fun q => q.1 := rfl
  rw [this]
  exact List.Nodup.sublist (List.filter_sublist.map _) h
theorem tOf_len (R : Rws) (t : Str) : (tOf R t).length ≤ R.length := by
  unfold tOf
  rw [List.length_map]
  exact List.length_filter_le _ _
theorem tOf_ids {R : Rws} {t i : Str} : i ∈ (tOf R t).map (·.1) ↔ ∃ r, (i, (t, r)) ∈ R := by
  rw [List.mem_map]
  constructor
  · rintro ⟨⟨j, r⟩, h, rfl⟩
    exact ⟨r, tOf_mem.mp h⟩
  · rintro ⟨r, h⟩
    exact ⟨(i, r), tOf_mem.mpr h, rfl⟩
theorem RwOk.row {tb : Tbs} {R : Rws} (h : RwOk tb R) {t i : Str} {r : Row} (hm : (i, r) ∈ tOf R t) : ∃ fs, valD tb t = some fs ∧ RowC fs r := h.ok _ (tOf_mem.mp hm)
theorem RwOk.tab {tb : Tbs} {R : Rws} (h : RwOk tb R) {q : Str × (Str × Row)} (hq : q ∈ R) : q.2.1 ∈ tb.map (·.1) := by
  obtain ⟨fs, e, _⟩ := h.ok q hq
  exact List.mem_map.mpr ⟨_, valD_mem e, rfl⟩
/-- all the ids, table by table, are the ids -/
theorem ids_perm {R : Rws} : ∀ {ts : List Str}, ts.Nodup → (∀ q ∈ R, q.2.1 ∈ ts) → (ts.flatMap fun t => (tOf R t).map (·.1)).Perm (R.map (·.1)) := by
  induction R with
  | nil =>
    intro ts _ _
    have : (ts.flatMap fun t => (tOf [] t).map (·.1)) = [] := by
      rw [List.flatMap_eq_nil_iff]
      intro t _
      rfl
    rw [this]
    exact .nil
  | cons q R ih =>
    intro ts nd h
    have hq := h q List.mem_cons_self
    obtain ⟨l1, l2, rfl⟩ := List.append_of_mem hq
    have hn : ∀ t ∈ l1 ++ l2, t ≠ q.2.1 := by
      intro t ht e
      subst e
      have := (List.perm_middle.nodup_iff.mp nd)
      exact (List.nodup_cons.mp this).1 ht
    have same : ∀ t, t ≠ q.2.1 → tOf (q :: R) t = tOf R t := by
      intro t ht
      unfold tOf
      rw [List.filter_cons, if_neg (by simpa using fun z => ht z.symm)]
    have hd : tOf (q :: R) q.2.1 = (q.1, q.2.2) :: tOf R q.2.1 := by
      unfold tOf
      rw [List.filter_cons, if_pos (by simp)]
      rfl
    have e1 : ∀ l : List Str, (∀ t ∈ l, t ≠ q.2.1) → (l.flatMap fun t => (tOf (q :: R) t).map (·.1)) = l.flatMap fun t => (tOf R t).map (·.1) := by
      intro l hl
      induction l with
      | nil => rfl
      | cons t l ih2 =>
        rw [List.flatMap_cons, List.flatMap_cons, same t (hl t List.mem_cons_self), ih2 fun x hx => hl x (List.mem_cons_of_mem _ hx)]
    have ih' := ih nd fun x hx => h x (List.mem_cons_of_mem _ hx)
    rw [List.flatMap_append, List.flatMap_cons] at ih' ⊢
    rw [e1 l1 fun t ht => hn t (List.mem_append_left _ ht), e1 l2 fun t ht => hn t (List.mem_append_right _ ht), hd, List.map_cons, List.cons_append, List.map_cons]
    exact List.perm_middle.trans (List.Perm.cons _ ih')
def tabOf (tb : Tbs) (R : Rws) (i : Str) : Option Str := (tb.map (·.1)).find? fun t => decide (i ∈ (tOf R t).map (·.1))
theorem tabOf_in {tb : Tbs} {R : Rws} (h : RwOk tb R) {i t : Str} {r : Row} (hm : (i, (t, r)) ∈ R) : tabOf tb R i = some t := by
  unfold tabOf
  have uniq : ∀ u, i ∈ (tOf R u).map (·.1) → u = t := by
    intro u hu
    obtain ⟨r2, hr2⟩ := tOf_ids.mp hu
    have e1 := valD_of h.nd hm
    have e2 := valD_of h.nd hr2
    rw [e1] at e2
    cases e2
    rfl
  cases e : (tb.map (·.1)).find? fun t => decide (i ∈ (tOf R t).map (·.1)) with
  | some u => rw [uniq u (of_decide_eq_true (List.find?_some (p := fun t => decide (i ∈ (tOf R t).map (·.1))) e))]
  | none =>
    have := List.find?_eq_none.mp e t (h.tab hm)
    exact absurd (decide_eq_true (tOf_ids.mpr ⟨r, hm⟩)) this
theorem tabOf_out {tb : Tbs} {R : Rws} {i : Str} (hm : i ∉ R.map (·.1)) : tabOf tb R i = none := by
  unfold tabOf
  rw [List.find?_eq_none]
  intro t _ z
  obtain ⟨r, hr⟩ := tOf_ids.mp (of_decide_eq_true z)
  exact hm (List.mem_map.mpr ⟨_, hr, rfl⟩)
theorem tOf_put {R : Rws} {i t : Str} {r : Row} (h : ∀ q ∈ R, q.1 = i → q.2.1 = t) : tOf (putD R i (t, r)) t = putD (tOf R t) i r ∧ ∀ u, u ≠ t → tOf (putD R i (t, r)) u = tOf R u := by
  have eqm : i ∈ (tOf R t).map (·.1) ↔ i ∈ R.map (·.1) := by
    rw [tOf_ids]
    constructor
    · rintro ⟨r, hr⟩; exact List.mem_map.mpr ⟨_, hr, rfl⟩
    · intro z
      obtain ⟨⟨j, u, r2⟩, hq, rfl⟩ := List.mem_map.mp z
      have := h _ hq rfl
      simp only at this
      subst this
      exact ⟨r2, hq⟩
  unfold putD
  by_cases m : i ∈ R.map (·.1)
  · rw [if_pos m, if_pos (eqm.mpr m)]
    clear m eqm
    constructor
    · unfold tOf
      induction R with
      | nil => rfl
      | cons q R ih =>
        have ih := ih fun x hx => h x (List.mem_cons_of_mem _ hx)
        rw [List.map_cons, List.filter_cons, List.filter_cons]
        by_cases e : q.1 = i
        · have ht := h q List.mem_cons_self e
          rw [if_pos e, if_pos (by simp), if_pos (by simp [ht]), List.map_cons, List.map_cons, List.map_cons, ih]
          simp [e]
        · rw [if_neg e]
          by_cases e2 : q.2.1 = t
          · rw [if_pos (by simp [e2]), if_pos (by simp [e2]), List.map_cons, List.map_cons, List.map_cons, ih]
            simp [e]
          · rw [if_neg (by simp [e2]), if_neg (by simp [e2]), ih]
    · intro u hu
      unfold tOf
      induction R with
      | nil => rfl
      | cons q R ih =>
        have ih := ih fun x hx => h x (List.mem_cons_of_mem _ hx)
        rw [List.map_cons, List.filter_cons, List.filter_cons]
        by_cases e : q.1 = i
        · have ht := h q List.mem_cons_self e
          rw [if_pos e, if_neg (by simpa using fun z => hu z.symm), if_neg (by rw [ht]; simpa using fun z => hu z.symm), ih]
        · rw [if_neg e]
          by_cases e2 : q.2.1 = u
          · rw [if_pos (by simp [e2]), if_pos (by simp [e2]), List.map_cons, List.map_cons, ih]
          · rw [if_neg (by simp [e2]), if_neg (by simp [e2]), ih]
  · rw [if_neg m, if_neg fun z => m (eqm.mp z)]
    constructor
    · unfold tOf
      rw [List.filter_append, List.map_append, List.filter_cons, if_pos (by simp)]
      rfl
    · intro u hu
      unfold tOf
      rw [List.filter_append, List.map_append, List.filter_cons, if_neg (by simpa using fun z => hu z.symm)]
      simp
theorem tOf_drop (R : Rws) (i t : Str) : tOf (dropD R i) t = dropD (tOf R t) i := by
  unfold tOf dropD
  rw [List.filter_map, List.filter_filter, List.filter_filter]
  congr 1
  apply List.filter_congr
  intro q _
  exact Bool.and_comm _ _
end K25

/-! K14 -/
/-! K14: {k: {} for ..}; operators that give new things. -/
namespace K25
open PySem PySem.Spec PyProof.Rows L2
theorem valV_of_nodup : ∀ {kvs : List (Key × V)} {k : Key} {v : V}, (kvs.map (·.1)).Nodup → (k, v) ∈ kvs → valV kvs k = some v
  | p :: r, k, v, hn, h => by
    rw [List.map_cons, List.nodup_cons] at hn
    rcases List.mem_cons.mp h with e | h
    · rw [valV_pos (by rw [← e]), ← e]
    · rw [valV_neg fun z => hn.1 (by rw [z]; exact List.mem_map.mpr ⟨_, h, rfl⟩)]
      exact valV_of_nodup hn.2 h
section
variable {δ : Type} {K : PySem.W.Frag} {σ : L2.St} {G H : Hp} {ds : List δ} {up : δ → L2.St → L2.St} {wi : TI} {g : TG} {tk ta tb : TE} {vs : List Nat} {r : R2} {x : V}
/-- {k: {} for ..}: new dicts of one's own, different ones -/
theorem gm_dcN (kf : δ → Key) (s : Sub G H) (hi : GI Fr0 wi g σ G ds up) (hz : ds.length ≤ 100000) (hw : ∀ d ∈ ds, wipe (up d (wipe σ vs)) vs = wipe σ vs) (hn : (ds.map kf).Nodup)
    (hk : ∀ d ∈ ds, ∀ G', Same G G' → Gv tk (up d (wipe σ vs)) G' (kV (kf d))) {Q : VK}
    (q : ∀ D ps G' H', Stp G H G' H' → H D = none → G' D = none → H' D = some (.dK ((ds.zip ps).map fun z => (kf z.1, V.ref z.2))) → ps.length = ds.length → ps.Nodup → (∀ a ∈ ps, H a = none ∧ G' a = none ∧ H' a = some (.dK []) ∧ a ≠ D) → Q (.ref D) H') : tDc wi g tYes tk tDNewK vs σ H Q :=
  hi H s trivial _ fun J G1 H1 st1 wk D hD => by
    refine ⟨fun i m H2 => m = ds.length - i ∧ i ≤ ds.length ∧ ∃ ps, Stp G1 H1 G1 H2 ∧ H2 D = some (.dK (((ds.take i).zip ps).map fun z => (kf z.1, V.ref z.2))) ∧ ps.length = i ∧ ps.Nodup ∧ ∀ a ∈ ps, H1 a = none ∧ G1 a = none ∧ H2 a = some (.dK []) ∧ a ≠ D,
      ⟨ds.length, by simp, Nat.zero_le _, [], (Stp.refl st1.sub).hide hD, by rw [upd_same]; rfl, rfl, List.nodup_nil, fun a ha => by cases ha⟩, ?_⟩
    rintro i m H2 ⟨rfl, hil, ps, st, hD2, hl, nd, al⟩
    have gD : G1 D = none := st1.sub.non hD
    by_cases hlt : i < ds.length
    · have hd : ds[i]? = some ds[i] := List.getElem?_eq_getElem hlt
      have hdi : ds[i] ∈ ds := List.getElem_mem hlt
      have hnew : ∀ z ∈ (ds.take i).zip ps, kf z.1 ≠ kf ds[i] := by
        intro z hzm e
        have hz1 := (List.of_mem_zip hzm).1
        obtain ⟨j, hj, ej⟩ := List.mem_iff_getElem.mp hz1
        rw [List.length_take] at hj
        rw [List.getElem_take] at ej
        have : (ds.map kf)[j]'(by rw [List.length_map]; omega) = (ds.map kf)[i]'(by rw [List.length_map]; omega) := by
          rw [List.getElem_map, List.getElem_map, ej, e]
        have := (List.getElem_inj hn).mp this
        omega
      generalize ds[i] = d at hd hdi hnew
      obtain ⟨go, turn⟩ := wk.go H2 st.sub (Same.frz st.keep) i d hd
      refine .inr ⟨go, fun H' => ∃ m', m' < ds.length - i ∧ (m' = ds.length - (i + 1) ∧ i + 1 ≤ ds.length ∧ ∃ ps, Stp G1 H1 G1 H' ∧ H' D = some (.dK (((ds.take (i + 1)).zip ps).map fun z => (kf z.1, V.ref z.2))) ∧ ps.length = i + 1 ∧ ps.Nodup ∧ ∀ a ∈ ps, H1 a = none ∧ G1 a = none ∧ H' a = some (.dK []) ∧ a ≠ D), fun H' z => z, fun x H3 y => ?_⟩
      obtain ⟨e3, asg⟩ := turn x H3 y
      refine asg (wipe σ vs) _ fun H4 e4 => ⟨hw d hdi, ?_⟩
      unfold tYes
      simp only [if_true]
      have e24 := e3.trans e4
      refine hk d hdi G1 st1.ex H4 (st.sub.same e24) _ fun H5 e5 => ?_
      have e25 := e24.trans e5
      intro p hp
      have e26 : Same H2 (upd H5 p (.dK [])) := e25.trans (Same.put hp)
      have pD : p ≠ D := fun z => by rw [z, e25 D _ hD2] at hp; cases hp
      have p1 : H1 p = none := st.keep.free (e25.free hp)
      have nk : valV (((ds.take i).zip ps).map fun z => (kf z.1, V.ref z.2)) (kf d) = none := by
        cases z : valV (((ds.take i).zip ps).map fun z => (kf z.1, V.ref z.2)) (kf d) with
        | none => rfl
        | some w =>
          exfalso
          unfold valV at z
          cases f : (((ds.take i).zip ps).map fun z => (kf z.1, V.ref z.2)).find? fun kv => decide (kv.1 = kf d) with
          | none => rw [f] at z; cases z
          | some kv =>
            obtain ⟨u, hu, rfl⟩ := List.mem_map.mp (List.mem_of_find?_eq_some f)
            have := List.find?_some f
            exact hnew u hu (of_decide_eq_true this)
      refine ⟨_, kf d, rfl, e26 D _ hD2, ?_, ds.length - (i + 1), by omega, rfl, hlt, ps ++ [p], ?_, ?_, by rw [List.length_append, hl]; rfl, ?_, ?_⟩
      · rw [List.length_map, List.length_zip, hl, List.length_take, sizeLine_eq]
        omega
      · exact (st.grow e26).write gD hD
      · rw [upd_same, putK_new _ nk, take_snoc hd, List.zip_append (by rw [List.length_take, hl]; omega)]
        simp
      · rw [List.nodup_append]
        refine ⟨nd, by simp, fun a ha b hb => ?_⟩
        rw [List.mem_singleton] at hb
        rw [hb]
        intro e
        rw [e] at ha
        have := (al p ha).2.2.1
        rw [e25 p _ this] at hp
        cases hp
      · intro a ha
        rcases List.mem_append.mp ha with ha | ha
        · obtain ⟨a1, a2, a3, a4⟩ := al a ha
          exact ⟨a1, a2, by rw [upd_ne a4]; exact e26 a _ a3, a4⟩
        · rw [List.mem_singleton] at ha
          rw [ha]
          exact ⟨p1, st1.sub.non p1, by rw [upd_ne pD]; exact upd_same, pD⟩
    · have ei : i = ds.length := by omega
      subst ei
      rw [List.take_length] at hD2
      exact .inl ⟨wk.stop H2 st.sub (Same.frz st.keep), q D ps G1 H2 (st1.trans st) (st1.keep.free hD) gD hD2 hl nd fun a ha => ⟨st1.keep.free (al a ha).1, (al a ha).2⟩⟩
/-- an operator with a new thing, that gives a new thing -/
theorem gn_opN2 {mk m2 : HO} (ha : Gv ta σ G x) (hb : Gn mk tb σ G) (hr : ∀ q, G q = none → ∀ H, Sub (upd G q mk) H → ∀ Q : VK, (∀ p H', Same H H' → H p = none → H' p = some m2 → Q (.ref p) H') → r x (.ref q) H Q) : Gn m2 (tOp r ta tb) σ G := fun H s Q q =>
  ha H s _ fun H1 e1 => hb H1 (s.same e1) _ fun p H2 e2 hp h2 => hr p ((s.same e1).non hp) H2 (((s.same e1).same e2).put h2) Q fun p2 H3 e3 h20 h23 => q p2 H3 ((e1.trans e2).trans e3) ((e1.trans e2).free h20) h23
/-- a tuple is taken apart: two names -/
theorem q_two {te : TE} {a : Addr} {i j : Nat} {u v : V} {D : Ends} {rest : TS} (s : Sub G H) (h : Gv te σ G (.ref a)) (ha : G a = some (.tup [u, v])) (k : ∀ H', Same H H' → rest D ((σ.set i (some u)).set j (some v)) H') : tSeq (tAsg te (gTup K 2 (gCons (gName i) (gCons (gName j) gNil)))) rest D σ H :=
  h H s _ fun H1 e1 => ⟨a, [u, v], rfl, SqT.of ((s.same e1).tup ha), rfl, _, _, rfl, _, _, rfl, rfl, k H1 e1⟩
end
end K25

/-! F10 -/
namespace K25
open PySem PySem.Spec PyProof.Rows L2
section
variable {P : Program} {w : World} {K : PySem.W.Frag} {mg : Str → Option Value} {base : Heap}
/-! ### the schema's == -/
theorem eqT_same {K : PySem.W.Frag} {H : Hp} {n : Nat} {v : V} (h : flatB v = true ∨ ∃ a, v = .ref a) : EqT K H (n + 1) v v := by
  rcases h with h | ⟨a, rfl⟩
  · exact .inl ⟨rfl, h⟩
  · exact .inr (.inl ⟨a, rfl, rfl⟩)
def spSEq (C : Addr) : Sp := fun vs H Q _ => ∃ a tb rs G, vs = [.ref a, .ref a] ∧ Sub G H ∧ SchAt C G a tb rs ∧ TbsOk tb ∧ ∀ H', Same H H' → Q (.bl true) H'
abbrev N_Schema_eq : List Str := ["self", "other"]
theorem sc_Schema_eq : FnScope N_Schema_eq ["self", "other"] (defScope s_Schema_eq) := ⟨rfl, rfl, rfl, by decide +kernel, rfl, by decide +kernel, by decide +kernel⟩
-- slots: 0 self, 1 other
theorem c_Schema_eq (T : Tx K mg) : Met P w K mg base 1 (He.ga K "Schema") "__eq__" (spSEq (He.ga K "Schema")) := by
  refine ⟨_, _, ["self", "other"], T.cl_Schema, T.m_Schema_eq, fn_body T.f_Schema_eq sc_Schema_eq (fun vs H Q E h => by obtain ⟨_, _, _, _, rfl, _⟩ := h; rfl) (fun cdv A outer s H vs Q E hr h => ?_), T.f_Schema_eq.bindsN fun _ _ _ _ _ _ us hl => match us, hl with | [_, _], _ => rfl⟩
  obtain ⟨a, tb, rs, G, rfl, sG, ⟨dx, d, l, h1, ⟨kvs, h2, h3⟩, rvs, h4, h5⟩, ok, k⟩ := h
  have hu := hu_of hr
  refine ⟨_,
    (pss_cons (ps_if (pt_not (pt_val (pe_callB (call_isiK rfl) (by rfl) T.b_isinstance (by decide +kernel) (pa_cons (pv 1) (pa_cons (pe_glob (v := V.ref (He.ga K "Schema")) rfl T.g_Schema rfl) pa_nil)))))
      (pss_one (ps_ret pe_bl))
      pss_nil)
    (pss_one (ps_ret (pe_and (pe_cmpR (op_eqTK rfl hr.units) (pe_fldK rfl (pv 0) rfl) (pe_fldK rfl (pv 1) rfl) (nomark _)) (pe_one (pe_cmpR (op_eqTK rfl hr.units) (pe_fldK rfl (pv 0) rfl) (pe_fldK rfl (pv 1) rfl) (nomark _))))))), ?_⟩
  refine q_no sG (gt_not (gt_B (gv_isSch T (gv_var rfl) h1))) fun H1 e1 => ?_
  replace sG := sG.same e1
  have nd : (kvs.map (·.1)).Nodup := by rw [h3.keys]; exact List.pairwise_map.mpr (ok.nd.imp fun h z => h (Sum.inr.inj z))
  refine s_ret sG (gv_andV (b := true) (c := true) (gv_op (gv_fld (gv_var rfl) h1 T.cl_Schema T.na_kept_tables rfl) (gv_fld (gv_var rfl) h1 T.cl_Schema T.na_kept_tables rfl) fun H s Q q => ⟨1, by omega, .inr (.inr ⟨d, d, kvs, kvs, rfl, rfl, s.rd h2, s.rd h2, rfl, fun p hp => ?_⟩), q H (Same.refl H)⟩) fun _ => gv_op (gv_fld (gv_var rfl) h1 T.cl_Schema T.na_kept_rules rfl) (gv_fld (gv_var rfl) h1 T.cl_Schema T.na_kept_rules rfl) fun H s Q q => ⟨1, by omega, .inl ⟨l, l, rvs, rvs, rfl, rfl, SqL.of (s.lst h4), SqL.of (s.lst h4), ?_⟩, q H (Same.refl H)⟩) fun H2 e2 => k H2 (e1.trans e2)
  · obtain ⟨x, hx, e, r⟩ := All2.mem1 h3 hp
    have hv := h3.at_ (valD_of ok.nd hx)
    obtain ⟨p1, p2⟩ := p
    have e : p1 = Sum.inr x.1 := e
    obtain ⟨fa, ef, _⟩ : FsV p2 x.2 G := r
    subst e ef
    refine ⟨V.ref fa, ?_, eqT_same (.inr ⟨fa, rfl⟩)⟩
    exact valV_of_nodup nd hp
  · clear h4
    induction h5 with
    | nil => exact .nil
    | cons r _ ih =>
      refine .cons ?_ ih
      obtain ⟨p, x, xs, ep, _⟩ := RulV.any r
      exact eqT_same (.inr ⟨p, ep⟩)
end
end K25

/-! F11 -/
namespace K25
open PySem PySem.Spec PyProof.Rows L2
/-- addresses by names -/
def adBy (ns : List Str) (ps : List Addr) (t : Str) : Addr := (valD (ns.zip ps) t).getD 0
theorem adBy_zip {ns : List Str} {ps : List Addr} (nd : ns.Nodup) (hl : ps.length = ns.length) : (ns.zip ps).map (fun z => ((Sum.inr z.1 : Key), V.ref z.2)) = ns.map fun t => (Sum.inr t, V.ref (adBy ns ps t)) := by
  have key : ∀ z ∈ ns.zip ps, adBy ns ps z.1 = z.2 := fun z hz => by
    unfold adBy
    rw [valD_of (by rw [List.map_fst_zip (by omega)]; exact nd) hz]
    rfl
  have : (ns.zip ps).map (fun z => ((Sum.inr z.1 : Key), V.ref z.2)) = ((ns.zip ps).map (·.1)).map fun t => (Sum.inr t, V.ref (adBy ns ps t)) := by
    rw [List.map_map]
    refine List.map_congr_left fun z hz => ?_
    show (_, _) = (_, _)
    rw [key z hz]
  rw [this, List.map_fst_zip (by omega)]
theorem adBy_mem {ns : List Str} {ps : List Addr} (nd : ns.Nodup) (hl : ps.length = ns.length) {t : Str} (ht : t ∈ ns) : adBy ns ps t ∈ ps := by
  have : t ∈ (ns.zip ps).map (·.1) := by rw [List.map_fst_zip (by omega)]; exact ht
  obtain ⟨x, e⟩ := valD_in this
  unfold adBy
  rw [e]
  exact (List.of_mem_zip (valD_mem e)).2
theorem adBy_inj {ns : List Str} {ps : List Addr} (nd : ns.Nodup) (np : ps.Nodup) (hl : ps.length = ns.length) {t u : Str} (ht : t ∈ ns) (hu : u ∈ ns) (e : adBy ns ps t = adBy ns ps u) : t = u := by
  obtain ⟨i, hi, ei⟩ := List.mem_iff_getElem.mp ht
  obtain ⟨j, hj, ej⟩ := List.mem_iff_getElem.mp hu
  have at_ : ∀ (i : Nat) (hi : i < ns.length), adBy ns ps ns[i] = ps[i]'(by omega) := fun i hi => by
    have hz : (ns[i], ps[i]'(by omega)) ∈ ns.zip ps := by
      have : (ns.zip ps)[i]'(by rw [List.length_zip]; omega) = (ns[i], ps[i]'(by omega)) := List.getElem_zip
      rw [← this]
      exact List.getElem_mem _
    unfold adBy
    rw [valD_of (by rw [List.map_fst_zip (by omega)]; exact nd) hz]
    rfl
  rw [← ei, ← ej, at_ i hi, at_ j hj] at e
  have := (List.getElem_inj np).mp e
  subst this
  rw [← ei, ← ej]
section
variable {P : Program} {w : World} {K : PySem.W.Frag} {mg : Str → Option Value} {base : Heap}
/-- the tables' dicts are one's own, different -/
structure AdO (H0 G : Hp) (ad : Str → Addr) (tb : Tbs) : Prop where
  h0 : ∀ t ∈ tb.map (·.1), H0 (ad t) = none
  g : ∀ t ∈ tb.map (·.1), G (ad t) = none
  inj : ∀ t ∈ tb.map (·.1), ∀ u ∈ tb.map (·.1), ad t = ad u → t = u
def spTabInit (CS CT : Addr) : Sp := fun vs H Q _ => ∃ x s dx tb rs G H0, vs = [.ref x, .ref s] ∧ Sub G H0 ∧ Same H0 H ∧ H0 x = none ∧ H x = some (.ins CT dx []) ∧ SchAt CS G s tb rs ∧ TbsOk tb ∧
  ∀ G' H' k ad, Stp G H0 G' H' → Own H0 G' x H' (.ins CT dx (insT s k)) → G' k = some (.dK (tb.map fun t => (Sum.inr t.1, V.ref (ad t.1)))) → AdO H0 G' ad tb → (∀ t ∈ tb.map (·.1), H' (ad t) = some (.dK []) ∧ ad t ≠ x) → Q .non H'
abbrev N_Tables_init : List Str := ["self", "schema", "table"]
theorem sc_Tables_init : FnScope N_Tables_init ["self", "schema"] (defScope s_Tables_init) := ⟨rfl, rfl, rfl, by decide +kernel, rfl, by decide +kernel, by decide +kernel⟩
-- slots: 0 self, 1 schema, 2 table
theorem k_Tables (T : Tx K mg) : Mak P w K mg base 2 "Tables" (He.ga K "Tables") (spTabInit (He.ga K "Schema") (He.ga K "Tables")) := by
  refine ⟨_, _, ["self", "schema"], T.mk_Tables, fn_body T.f_Tables_init sc_Tables_init (fun vs H Q E h => by obtain ⟨_, _, _, _, _, _, _, rfl, _⟩ := h; rfl) (fun cdv A outer s H vs Q E hr h => ?_), T.g_Tables, T.f_Tables_init.bindsN fun _ _ _ _ _ _ us hl => match us, hl with | [_, _], _ => rfl⟩
  obtain ⟨x, sc, dx, tb, rs, G, H0, rfl, s0, e0, hx0, hx, hS, oT, k⟩ := h
  have hu := hu_of hr
  refine ⟨_,
    (pss_cons (ps_if (pt_not (pt_val (pe_callB (call_isiK rfl) (by rfl) T.b_isinstance (by decide +kernel) (pa_cons (pv 1) (pa_cons (pe_glob (v := V.ref (He.ga K "Schema")) rfl T.g_Schema rfl) pa_nil)))))
      (pss_one ps_never)
      pss_nil)
    (pss_cons (ps_fld (pv 0) (pv 1) rfl)
    (pss_one (ps_fld (pv 0) (pe_dc rfl sc_Tables_init.nd (pi_listK rfl (pe_met0 (c_Schema_tables T) hr (by decide) (pv 1))) (blkOk_by (own := [("table", 2)]) (N := N_Tables_init) (sc := defScope s_Tables_init) (by decide +kernel)) (fun _ _ _ _ _ => (pg_name (i := 2) sc_Tables_init.nd rfl (Or.inl rfl))) (fun _ _ _ _ _ => pts_nil) (fun _ _ _ _ _ => (pv 2)) (fun _ _ _ _ _ => pe_dnewK)) rfl)))), ?_⟩
  have st : Stp G H0 G H := (Stp.refl s0).grow e0
  have wx : Own H0 G x H (.ins (He.ga K "Tables") dx []) := ⟨hx0, s0.non hx0, hx⟩
  obtain ⟨ds, d, l, h1, h2, h4⟩ := id hS
  refine q_no st.sub (gt_not (gt_B (gv_isSch T (gv_var rfl) h1))) fun H1 e1 => ?_
  replace st := st.grow e1; replace wx := wx.grow e1
  refine q_of (s_fld (Φ := fun v G' => v = .ref sc ∧ G' = G) st.sub (ge_gv (gv_var rfl) ⟨rfl, rfl⟩) fun v G2 H2 s2 f2 => ?_)
  obtain ⟨rfl, eg⟩ := f2
  subst eg
  replace wx := wx.step s2
  replace st := st.trans s2
  refine ⟨upd G2 x (.ins (He.ga K "Tables") dx []), x, _, dx, [], st.sub.put wx.at_, gv_var rfl, wx.at_, T.cl_Tables, T.na_its_schema, by simp, fun H3 e3 => ?_⟩
  have wx3 : Own H0 G2 x (upd H3 x (.ins (He.ga K "Tables") dx [("its_schema", .ref sc)])) (.ins (He.ga K "Tables") dx [("its_schema", .ref sc)]) := (wx.grow e3).write
  have st3 : Stp G2 H0 G2 (upd H3 x (.ins (He.ga K "Tables") dx [("its_schema", .ref sc)])) := (st.grow e3).writeO (wx.grow e3)
  rw [show putF ("its_schema" : Str) (V.ref sc) [] = [(("its_schema" : Str), V.ref sc)] from rfl]
  generalize upd H3 x (.ins (He.ga K "Tables") dx [("its_schema", .ref sc)]) = H4 at wx3 st3 ⊢
  unfold sFld
  dsimp only
  have hi3 := oT.hi
  have kd : ((tb.map (·.1)).map fun t => (Sum.inr t : Key)).Nodup := List.pairwise_map.mpr (oT.nd.imp fun h z => h (Sum.inr.inj z))
  refine gm_dcN (ds := tb.map (·.1)) (up := upN 2 V.str) (fun t => Sum.inr t) st3.sub (gi_listN (emb := V.str) (gn_meth (gv_var rfl) h1 rfl ga_nil fun H s Q E q => ⟨sc, tb, rs, G2, rfl, s, hS, q⟩)) (by rw [List.length_map]; omega) (fun _ _ => rfl) kd (fun t ht G' e => gv_var rfl) fun D ps G5 H5 st5 hD gD hD5 hl np hps => ?_
  have st5' := st3.trans st5
  have wx5 := wx3.step st5
  have wD : Own H0 G5 D H5 (.dK (((tb.map (·.1)).zip ps).map fun z => (Sum.inr z.1, V.ref z.2))) := ⟨st3.keep.free hD, gD, hD5⟩
  have nDx : x ≠ D := fun z => by rw [← z, wx3.at_] at hD; cases hD
  have stT := st5'.tell wD.g wD.h0 wD.at_
  have wxT : Own H0 (upd G5 D (.dK (((tb.map (·.1)).zip ps).map fun z => (Sum.inr z.1, V.ref z.2)))) x H5 (.ins (He.ga K "Tables") dx [("its_schema", .ref sc)]) := ⟨wx5.h0, by rw [upd_ne nDx]; exact wx5.g, wx5.at_⟩
  refine (gv_var (i := 0) (v := .ref x) (σ := [some (.ref x), some (.ref sc), none]) rfl) H5 (stT.sub.put wxT.at_) _ fun H6 e6 => ⟨x, _, dx, _, rfl, e6 _ _ wxT.at_, T.cl_Tables, T.na_kept, by simp, ?_⟩
  refine k _ _ D (adBy (tb.map (·.1)) ps) ((stT.grow e6).writeO (wxT.grow e6)) (wxT.grow e6).write ?_ ⟨fun t ht => ?_, fun t ht => ?_, fun t ht u hu e => adBy_inj oT.nd np (by rw [hl]) ht hu e⟩ fun t ht => ?_
  · rw [upd_same, adBy_zip oT.nd hl, List.map_map]
    rfl
  · exact st3.keep.free (hps _ (adBy_mem oT.nd hl ht)).1
  · rw [upd_ne (hps _ (adBy_mem oT.nd hl ht)).2.2.2]
    exact (hps _ (adBy_mem oT.nd hl ht)).2.1
  · obtain ⟨a1, a2, a3, a4⟩ := hps _ (adBy_mem oT.nd hl ht)
    have ne : adBy (tb.map (·.1)) ps t ≠ x := fun z => by rw [z, wx3.at_] at a1; cases a1
    exact ⟨by rw [upd_ne ne]; exact e6 _ _ a3, ne⟩
end
end K25

/-! F12 -/
namespace K25
open PySem PySem.Spec PyProof.Rows L2
theorem valV_kept {tb : Tbs} {ad : Str → Addr} {t : Str} (ht : t ∈ tb.map (·.1)) : valV (tb.map fun t => ((Sum.inr t.1 : Key), V.ref (ad t.1))) (Sum.inr t) = some (.ref (ad t)) := by
  induction tb with
  | nil => cases ht
  | cons p l ih =>
    rw [List.map_cons]
    by_cases e : p.1 = t
    · rw [valV_pos (by rw [e])]; subst e; rfl
    · rw [valV_neg fun z => e (Sum.inr.inj z)]
      refine ih ?_
      rw [List.map_cons] at ht
      rcases List.mem_cons.mp ht with h | h
      · exact absurd h.symm e
      · exact h
abbrev nms (tb : Tbs) : List Str := tb.map (·.1)
def hasR (R : Rws) (t : Str) (x : Option Str) : Bool := match x with
  | some i => decide (i ∈ (tOf R t).map (·.1))
  | none => false
section
variable {P : Program} {w : World} {K : PySem.W.Frag} {mg : Str → Option Value} {base : Heap}
section
variable {G : Hp} {a s k : Addr} {tb : Tbs} {R : Rws} {ad : Str → Addr} {σ : L2.St} {te tt : TE}
/-- self.kept -/
theorem gv_kept (T : Tx K mg) (hT : TabX (He.ga K "Tables") G G a s tb R k ad) (h : Gv te σ G (.ref a)) : Gv (tFld K te "kept") σ G (.ref k) := let ⟨_, i⟩ := hT.ins; gv_fld h i T.cl_Tables T.na_kept rfl
/-- self.kept[t] -/
theorem gv_keptT (T : Tx K mg) (hT : TabX (He.ga K "Tables") G G a s tb R k ad) (h : Gv te σ G (.ref a)) {t : Str} (ht : t ∈ tb.map (·.1)) (h2 : Gv tt σ G (.str t)) : Gv (tDGet (tFld K te "kept") tt) σ G (.ref (ad t)) := gv_dget (k := Sum.inr t) (gv_kept T hT h) h2 hT.kept (valV_kept ht)
end
def spHasRow (CT : Addr) : Sp := fun vs H Q _ => ∃ a t x s tb R k ad G, vs = [.ref a, .str t, ov x] ∧ Sub G H ∧ TabX CT G G a s tb R k ad ∧ t ∈ tb.map (·.1) ∧ ∀ H', Same H H' → Q (.bl (hasR R t x)) H'
theorem sv_hasRow {C : Addr} {G : Hp} {a s k : Addr} {tb : Tbs} {R : Rws} {ad : Str → Addr} {t : Str} {x : Option Str} (h : TabX C G G a s tb R k ad) (ht : t ∈ tb.map (·.1)) : Sv (spHasRow C) [.ref a, .str t, ov x] G (.bl (hasR R t x)) := fun H sb Q E q => ⟨a, t, x, s, tb, R, k, ad, G, rfl, sb, h, ht, q⟩
abbrev N_Tables_has_row : List Str := ["self", "table", "ident"]
theorem sc_Tables_has_row : FnScope N_Tables_has_row ["self", "table", "ident"] (defScope s_Tables_has_row) := ⟨rfl, rfl, rfl, by decide +kernel, rfl, by decide +kernel, by decide +kernel⟩
-- slots: 0 self, 1 table, 2 ident
theorem c_Tables_has_row (T : Tx K mg) : Met P w K mg base 1 (He.ga K "Tables") "has_row" (spHasRow (He.ga K "Tables")) := by
  refine ⟨_, _, ["self", "table", "ident"], T.cl_Tables, T.m_Tables_has_row, fn_body T.f_Tables_has_row sc_Tables_has_row (fun vs H Q E h => by obtain ⟨_, _, _, _, _, _, _, _, _, rfl, _⟩ := h; rfl) (fun cdv A outer s H vs Q E hr h => ?_), T.f_Tables_has_row.bindsN fun _ _ _ _ _ _ us hl => match us, hl with | [_, _, _], _ => rfl⟩
  obtain ⟨a, t, x, s', tb, R, kk, ad, G, rfl, sG, hT, ht, k⟩ := h
  have hu := hu_of hr
  refine ⟨_,
    (pss_cons (ps_if (PW.pt (pw_or (pt_not (pt_val (pe_callB (call_isiK rfl) (by rfl) T.b_isinstance (by decide +kernel) (pa_cons (pv 1) (pa_cons (pe_bltn (v := .ty "str") (by rfl) T.b_str (by decide +kernel) rfl) pa_nil))))) (pw_or1 (pt_not (pt_val (pe_callB (call_isiK rfl) (by rfl) T.b_isinstance (by decide +kernel) (pa_cons (pv 2) (pa_cons (pe_bltn (v := .ty "str") (by rfl) T.b_str (by decide +kernel) rfl) pa_nil))))))))
      (pss_one (ps_ret pe_bl))
      pss_nil)
    (pss_one (ps_ret (pe_and (pe_cmp (pc_din hu (pv 1) (pe_fldK rfl (pv 0) rfl))) (pe_one (pe_cmp (pc_din hu (pv 2) (pe_dget hu (pe_fldK rfl (pv 0) rfl) (pv 1) (fun _ _ => rfl))))))))), ?_⟩
  cases x with
  | none =>
    refine q_yes sG (gt_or (b := false) (c := true) (gt_not (gt_B (gv_isiY (gv_var rfl) ty_str))) fun _ => gt_not (gt_B (gv_isi (v := .non) (t := .type "NoneType") (u := .type "str") (b := false) (gv_var rfl) gv_c (.ty "str") ty_non (by unfold PySem.W.kitOne; rfl)))) fun H1 e1 => ?_
    exact s_ret (sG.same e1) gv_c fun H2 e2 => k H2 (e1.trans e2)
  | some i =>
    refine q_no sG (gt_or (gt_not (gt_B (gv_isiY (gv_var rfl) ty_str))) fun _ => gt_not (gt_B (gv_isiY (v := .str i) (gv_var rfl) ty_str))) fun H1 e1 => ?_
    obtain ⟨kvs, h1, h2⟩ := hT.inn t ht
    refine s_ret (sG.same e1) (gv_eq ?_ (gv_andV (b := true) (gv_eq (by rw [valV_kept ht]; rfl) (gv_din (k := Sum.inr t) (gv_var rfl) (gv_kept T hT (gv_var rfl)) hT.kept)) fun _ => gv_din (k := Sum.inr i) (gv_var rfl) (gv_keptT T hT (gv_var rfl) ht (gv_var rfl)) h1)) fun H2 e2 => k H2 (e1.trans e2)
    rw [h2.some, valD_some]
    rfl
def spGetItem (CT : Addr) : Sp := fun vs H Q _ => ∃ a p t i r s tb R k ad G, vs = [.ref a, .ref p] ∧ Sub G H ∧ G p = some (.tup [.str t, .str i]) ∧ TabX CT G G a s tb R k ad ∧ t ∈ tb.map (·.1) ∧ valD (tOf R t) i = some r ∧ ∀ p H', Same H H' → H p = none → H' p = some (.dK (rowK r)) → Q (.ref p) H'
abbrev N_Tables_getitem : List Str := ["self", "at", "table", "ident"]
theorem sc_Tables_getitem : FnScope N_Tables_getitem ["self", "at"] (defScope s_Tables_getitem) := ⟨rfl, rfl, rfl, by decide +kernel, rfl, by decide +kernel, by decide +kernel⟩
-- slots: 0 self, 1 at, 2 table, 3 ident
theorem c_Tables_getitem (T : Tx K mg) : Met P w K mg base 2 (He.ga K "Tables") "__getitem__" (spGetItem (He.ga K "Tables")) := by
  refine ⟨_, _, ["self", "at"], T.cl_Tables, T.m_Tables_getitem, fn_body T.f_Tables_getitem sc_Tables_getitem (fun vs H Q E h => by obtain ⟨_, _, _, _, _, _, _, _, _, _, _, rfl, _⟩ := h; rfl) (fun cdv A outer s H vs Q E hr h => ?_), T.f_Tables_getitem.bindsN fun _ _ _ _ _ _ us hl => match us, hl with | [_, _], _ => rfl⟩
  obtain ⟨a, p, t, i, r, s', tb, R, kk, ad, G, rfl, sG, hp, hT, ht, e, k⟩ := h
  have hu := hu_of hr
  refine ⟨_,
    (pss_cons (ps_asg (pv 1) (pg_tupK (n := 2) rfl rfl (pgs_cons (pg_name (i := 2) sc_Tables_getitem.nd rfl (Or.inl rfl)) (pgs_cons (pg_name (i := 3) sc_Tables_getitem.nd rfl (Or.inl rfl)) pgs_nil))))
    (pss_cons (ps_if (pt_not (pt_val (pe_met (c_Tables_has_row T) hr (by decide) (pv 0) (pa_cons (pv 2) (pa_cons (pv 3) pa_nil)))))
      (pss_one ps_never)
      pss_nil)
    (pss_one (ps_ret (pe_callTy cr_dictD (by rfl) T.b_dict (by decide +kernel) (pa_cons (pe_dget hu (pe_dget hu (pe_fldK rfl (pv 0) rfl) (pv 2) (fun _ _ => rfl)) (pv 3) (fun _ _ => rfl)) pa_nil)))))), ?_⟩
  obtain ⟨kvs, h1, h2⟩ := hT.inn t ht
  obtain ⟨v, ev, ra, rfl, hra⟩ := (h2.get i).1 r e
  obtain ⟨dx, hi⟩ := id hT.ins
  have hin : hasR R t (some i) = true := decide_eq_true (List.mem_map.mpr ⟨_, valD_mem e, rfl⟩)
  refine q_two sG (gv_var rfl) hp fun H1 e1 => ?_
  refine q_no (sG.same e1) (gt_eq (by rw [hin]; rfl) (gt_not (gt_test (gv_meth (gv_var rfl) hi rfl (ga_cons (gv_var rfl) (ga_cons (gv_var rfl) ga_nil)) (sv_hasRow (x := some i) hT ht))))) fun H2 e2 => ?_
  exact s_retN ((sG.same e1).same e2) (gd_dictD (gv_dget (k := Sum.inr i) (gv_keptT T hT (gv_var rfl) ht (gv_var rfl)) (gv_var rfl) h1 ev) hra) fun p H3 e3 hp h3 => k p H3 ((e1.trans e2).trans e3) ((e1.trans e2).free hp) h3
/-! ### the table of a row -/
def spTabOf (CT : Addr) : Sp := fun vs H Q _ => ∃ a i s tb R k ad G, vs = [.ref a, .str i] ∧ Sub G H ∧ TabX CT G G a s tb R k ad ∧ ∀ H', Same H H' → Q (ov (tabOf tb R i)) H'
theorem sv_tabOf {C : Addr} {G : Hp} {a s k : Addr} {tb : Tbs} {R : Rws} {ad : Str → Addr} {i : Str} (h : TabX C G G a s tb R k ad) : Sv (spTabOf C) [.ref a, .str i] G (ov (tabOf tb R i)) := fun H sb Q E q => ⟨a, i, s, tb, R, k, ad, G, rfl, sb, h, q⟩
theorem find_take {α : Type} {p : α → Bool} {l : List α} {i : Nat} {x : α} (h : ∀ y ∈ l.take i, p y = false) (e : l[i]? = some x) (hx : p x = true) : l.find? p = some x := by
  obtain ⟨hi, ex⟩ := List.getElem?_eq_some_iff.mp e
  rw [← List.take_append_drop i l, List.drop_eq_getElem_cons hi, List.find?_append, List.find?_eq_none.mpr fun y hy => by rw [h y hy]; simp, List.find?_cons, ex, hx]
  rfl
abbrev N_Tables_table_of : List Str := ["self", "ident", "table"]
theorem sc_Tables_table_of : FnScope N_Tables_table_of ["self", "ident"] (defScope s_Tables_table_of) := ⟨rfl, rfl, rfl, by decide +kernel, rfl, by decide +kernel, by decide +kernel⟩
-- slots: 0 self, 1 ident, 2 table
theorem c_Tables_table_of (T : Tx K mg) : Met P w K mg base 1 (He.ga K "Tables") "table_of" (spTabOf (He.ga K "Tables")) := by
  refine ⟨_, _, ["self", "ident"], T.cl_Tables, T.m_Tables_table_of, fn_body T.f_Tables_table_of sc_Tables_table_of (fun vs H Q E h => by obtain ⟨_, _, _, _, _, _, _, _, rfl, _⟩ := h; rfl) (fun cdv A outer s H vs Q E hr h => ?_), T.f_Tables_table_of.bindsN fun _ _ _ _ _ _ us hl => match us, hl with | [_, _], _ => rfl⟩
  obtain ⟨a, i, s', tb, R, kk, ad, G, rfl, sG, hT, k⟩ := h
  have hu := hu_of hr
  refine ⟨_,
    (pss_cons (ps_lkS (ps_for PassesOwn.never rfl (pi_keys (pe_fldK rfl (pv 0) rfl)) (pg_name (i := 2) sc_Tables_table_of.nd rfl (Or.inl rfl))
      (pss_one (ps_if (pt_cmp (pc_din hu (pv 1) (pe_dget hu (pe_fldK rfl (pv 0) rfl) (pv 2) (fun _ _ => rfl))))
        (pss_one (ps_ret (pv 2)))
        pss_nil))))
    (pss_one (ps_ret pe_non))), ?_⟩
  refine q_of (s_lkS (Stp.refl sG) hT.kept fun H01 H1 D1 st1 lk hb hn nxE rtE => ?_)
  refine s_for (Pre := Lk kk (tb.map fun (t : Str × Flds) => (Sum.inr t.1, V.ref (ad t.1)))) (ds := tb) (up := upN 2 fun t => .str t.1) (Iv := fun (j : Nat) σ2 G2 (_ : Hp) => (∃ v2, σ2 = [some (.ref a), some (.str i), v2]) ∧ Same G G2 ∧ ∀ t ∈ (nms tb).take j, decide (i ∈ (tOf R t).map (·.1)) = false)
    st1 (gi_keys (kf := fun (t : Str × Flds) => ((Sum.inr t.1 : Key), V.ref (ad t.1))) (gv_kept T hT (gv_var rfl)) rfl) lk (fun i σ' G' H1 H2 e h => h) (fun G1 H1 s1 => ⟨⟨_, rfl⟩, s1.ex, fun t ht => by simp at ht⟩) (fun G1 H1 s1 j t ht σ2 G2 H2 lp iv => ?_) fun G2 H2 σ2 lp iv => ?_
  · obtain ⟨⟨v2, rfl⟩, eG, hno⟩ := iv
    have tm : t.1 ∈ tb.map (·.1) := List.mem_map.mpr ⟨t, List.mem_of_getElem? ht, rfl⟩
    have hT2 := hT.mono eG fun t _ o h => eG _ _ h
    obtain ⟨kvs, h1, h2⟩ := hT2.inn t.1 tm
    have ej : (nms tb)[j]? = some t.1 := by unfold nms; rw [List.getElem?_map, ht]; rfl
    refine s_if lp.st.sub (gt_test (gv_eq (by rw [h2.some, valD_some]) (gv_din (k := Sum.inr i) (gv_var rfl) (gv_keptT T hT2 (gv_var rfl) tm (gv_var rfl)) h1))) (fun hb H3 e3 => ?_) fun hb H3 e3 => ?_
    · refine s_ret (lp.st.sub.same e3) (gv_var rfl) fun H4 e4 => rtE _ G2 H4 ?_ fun H5 s5 _ => ?_
      · exact ⟨(lp.st.grow e3).grow e4, eG, ((Frz.pre s1.keep lp.fz).same e3).same e4⟩
      · have hq : tabOf tb R i = some t.1 := find_take hno ej hb
        have := k H5 s5.keep
        rw [hq] at this
        exact this
    · exact ⟨G2, lp.grow e3, ⟨_, rfl⟩, eG, fun u hu => by
        rw [take_snoc ej] at hu
        rcases List.mem_append.mp hu with hu | hu
        · exact hno u hu
        · rw [List.mem_singleton] at hu; rw [hu]; exact hb⟩
  · obtain ⟨⟨v2, rfl⟩, eG, hno⟩ := iv
    refine nxE _ G2 H2 lp fun H3 s3 _ => ?_
    dsimp only
    refine s_ret s3.sub gv_c fun H4 e4 => ?_
    have hq : tabOf tb R i = none := by
      unfold tabOf
      rw [List.find?_eq_none]
      intro u hu z
      rw [List.take_of_length_le (by unfold nms; rw [List.length_map]; exact Nat.le_refl _)] at hno
      rw [hno u hu] at z
      cases z
    have := k H4 (s3.keep.trans e4)
    rw [hq] at this
    exact this
/-! ### lists of ids -/
def idsL (tb : Tbs) (R : Rws) : List Str := (tb.map (·.1)).flatMap fun t => (tOf R t).map (·.1)
theorem idsL_perm {tb : Tbs} {R : Rws} (h : RwOk tb R) (o : TbsOk tb) : (idsL tb R).Perm (R.map (·.1)) := ids_perm o.nd fun q hq => h.tab hq
def spIds (CT : Addr) : Sp := fun vs H Q _ => ∃ a s tb R k ad G, vs = [.ref a] ∧ Sub G H ∧ TabX CT G G a s tb R k ad ∧ TbsOk tb ∧ RwOk tb R ∧ ∀ p H', Same H H' → H p = none → H' p = some (sL (sortS (R.map (·.1)))) → Q (.ref p) H'
theorem sp_ids {C : Addr} {G : Hp} {a s k : Addr} {tb : Tbs} {R : Rws} {ad : Str → Addr} (h : TabX C G G a s tb R k ad) (o : TbsOk tb) (w : RwOk tb R) : ∀ H, Sub G H → ∀ (Q : VK) (E : XK), (∀ p H', Same H H' → H p = none → H' p = some (sL (sortS (R.map (·.1)))) → Q (.ref p) H') → spIds C [.ref a] H Q E := fun H sb Q E q => ⟨a, s, tb, R, k, ad, G, rfl, sb, h, o, w, q⟩
abbrev N_Tables_ids : List Str := ["self", "ident", "some"]
theorem sc_Tables_ids : FnScope N_Tables_ids ["self"] (defScope s_Tables_ids) := ⟨rfl, rfl, rfl, by decide +kernel, rfl, by decide +kernel, by decide +kernel⟩
-- slots: 0 self, 1 ident, 2 some
theorem c_Tables_ids (T : Tx K mg) : Met P w K mg base 1 (He.ga K "Tables") "ids" (spIds (He.ga K "Tables")) := by
  refine ⟨_, _, ["self"], T.cl_Tables, T.m_Tables_ids, fn_body T.f_Tables_ids sc_Tables_ids (fun vs H Q E h => by obtain ⟨_, _, _, _, _, _, _, rfl, _⟩ := h; rfl) (fun cdv A outer s H vs Q E hr h => ?_), T.f_Tables_ids.bindsN fun _ _ _ _ _ _ us hl => match us, hl with | [_], _ => rfl⟩
  obtain ⟨a, s', tb, R, kk, ad, G, rfl, sG, hT, oT, oR, k⟩ := h
  have hu := hu_of hr
  refine ⟨_,
    (pss_one (ps_ret (pe_callB (cr_sortedSK rfl) (by rfl) T.b_sorted (by decide +kernel) (pa_cons (pe_lks (pe_lc2 (vs1 := [1]) rfl sc_Tables_ids.nd (pi_values (pe_fldK rfl (pv 0) rfl)) (blkOk_by (own := [("some", 2), ("ident", 1)]) (N := N_Tables_ids) (sc := defScope s_Tables_ids) (by decide +kernel)) (by decide) (fun _ _ _ _ _ => (pg_name (i := 2) sc_Tables_ids.nd rfl (Or.inl rfl))) (fun _ _ _ _ _ => pts_nil) (fun _ _ _ _ _ => (pi_keys (pv 2))) (fun _ _ _ _ _ => (pg_name (i := 1) sc_Tables_ids.nd rfl (Or.inl rfl))) (fun _ _ _ _ _ => pts_nil) (fun _ _ _ _ _ => (pv 1)))) pa_nil)))), ?_⟩
  let kv : List (Key × V) := tb.map fun (t : Str × Flds) => (Sum.inr t.1, V.ref (ad t.1))
  let L : List (Addr × List (Key × V)) := (kk, kv) :: (tb.map (·.1)).map fun t => (ad t, kvOf G (ad t))
  have hin : ∀ t ∈ tb.map (·.1), G (ad t) = some (.dK (kvOf G (ad t))) ∧ PrD RowV G (kvOf G (ad t)) (tOf R t) := fun t ht => by
    obtain ⟨kvs, h1, h2⟩ := hT.inn t ht
    rw [kvOf_eq h1]
    exact ⟨h1, h2⟩
  haveI : Lks (PreL L) kk kv := lks_of List.mem_cons_self
  have lkd : ∀ t ∈ tb, Lks (PreL L) (ad t.1) (kvOf G (ad t.1)) := fun t ht => lks_of (List.mem_cons_of_mem _ (List.mem_map.mpr ⟨t.1, List.mem_map.mpr ⟨t, ht, rfl⟩, rfl⟩))
  have perm := idsL_perm oR oT
  have hlen : (idsL tb R).length ≤ 10 := by rw [perm.length_eq, List.length_map]; exact oR.len
  have hfm : tb.flatMap (fl2 (fun t => (tOf R t.1)) (fun _ _ => true) fun _ q => V.str q.1) = (idsL tb R).map V.str := by
    unfold idsL fl2
    rw [List.map_flatMap, List.flatMap_map]
    refine congrArg (fun f => List.flatMap f tb) (funext fun t => ?_)
    rw [List.filter_eq_self.mpr (fun _ _ => rfl), List.map_map]
    rfl
  have hi3 := oT.hi
  refine s_retN sG (gn_eq (congrArg (fun l => sL l) (sortS_congr perm)) (gl_sortedN (xs := idsL tb R) (Gm.gn (gm_lks L (by simp [L]; omega) (fun p hp => ?_) fun H s c Q q => gm_lc2V (δ := Str × Flds) (ε := Str × Row) (Pre := PreL L) (es := fun t => tOf R t.1) (pf := fun _ _ => true) (ds := tb) (up := upN 2 fun t => .ref (ad t.1)) (up1 := fun _ => upN 1 fun q => .str q.1) (fun _ q => V.str q.1)
    (gi_vals (kf := fun (t : Str × Flds) => ((Sum.inr t.1 : Key), V.ref (ad t.1))) (gv_kept T hT (gv_var rfl)) rfl) (fun t ht => ?_) ?_ (fun _ _ => rfl) (fun _ _ _ _ => rfl) (fun _ _ _ _ => gt_yes) (fun _ _ _ _ _ => gv_var rfl) preL_same preL_upd H s c Q fun p o G' H' st h0 gp h' eo => q p o G' H' st h0 gp h' (by rw [eo, hfm]))) (by omega))) k
  · rcases List.mem_cons.mp hp with rfl | hp
    · exact hT.kept
    · obtain ⟨t, ht, rfl⟩ := List.mem_map.mp hp
      exact (hin t ht).1
  · haveI := lkd t ht
    have ht' : t.1 ∈ tb.map (·.1) := List.mem_map.mpr ⟨t, ht, rfl⟩
    exact gi_keysD (gv_var rfl) (hin _ ht').2
  · rw [hfm, List.length_map]; omega
def spLen (CT : Addr) : Sp := fun vs H Q _ => ∃ a s tb R k ad G, vs = [.ref a] ∧ Sub G H ∧ TabX CT G G a s tb R k ad ∧ TbsOk tb ∧ RwOk tb R ∧ ∀ H', Same H H' → Q (.int (R.length : Nat)) H'
theorem gv_lenLN {K : PySem.W.Frag} {G : Hp} {σ : L2.St} {te : TE} {xs : List V} {n : Int} (h : Gls te σ G xs) (e : (xs.length : Int) = n) : Gv (tCB (fun xs H Q => ∃ p ys, xs = [.ref p] ∧ (SqL K H p ys ∨ SqT K H p ys) ∧ Q (.int ys.length) H) (tCons te tNil)) σ G (.int n) := fun H s _ q =>
  h H s _ fun p H1 e1 _ h1 => ⟨p, xs, rfl, .inl (SqL.of h1), by rw [e]; exact q H1 e1⟩
abbrev N_Tables_len : List Str := ["self"]
theorem sc_Tables_len : FnScope N_Tables_len ["self"] (defScope s_Tables_len) := ⟨rfl, rfl, rfl, by decide +kernel, rfl, by decide +kernel, by decide +kernel⟩
-- slots: 0 self
theorem c_Tables_len (T : Tx K mg) : Met P w K mg base 2 (He.ga K "Tables") "__len__" (spLen (He.ga K "Tables")) := by
  refine ⟨_, _, ["self"], T.cl_Tables, T.m_Tables_len, fn_body T.f_Tables_len sc_Tables_len (fun vs H Q E h => by obtain ⟨_, _, _, _, _, _, _, rfl, _⟩ := h; rfl) (fun cdv A outer s H vs Q E hr h => ?_), T.f_Tables_len.bindsN fun _ _ _ _ _ _ us hl => match us, hl with | [_], _ => rfl⟩
  obtain ⟨a, s', tb, R, kk, ad, G, rfl, sG, hT, oT, oR, k⟩ := h
  have hu := hu_of hr
  refine ⟨_,
    (pss_one (ps_ret (pe_callB (call_len_seqK rfl) (by rfl) T.b_len (by decide +kernel) (pa_cons (pe_met0 (c_Tables_ids T) hr (by decide) (pv 0)) pa_nil)))), ?_⟩
  obtain ⟨dx, hi⟩ := id hT.ins
  exact s_ret sG (gv_lenLN (gn_meth (gv_var rfl) hi rfl ga_nil (sp_ids hT oT oR)) (by rw [List.length_map, sortS_len, List.length_map])) k
/-! ### rows -/
def RwsV : RelD (List (Str × Row)) := fun v l G => ∃ p kvs, v = .ref p ∧ G p = some (.dK kvs) ∧ PrD RowV G kvs l
def spRows (CT : Addr) : Sp := fun vs H Q _ => ∃ a t s tb R k ad G, vs = [.ref a, .str t] ∧ Sub G H ∧ TabX CT G G a s tb R k ad ∧ t ∈ tb.map (·.1) ∧ RwOk tb R ∧ ∀ v G' H', Stp G H G' H' → RwsV v (srtD (tOf R t)) G' → Q v H'
theorem sx_rows {C : Addr} {G : Hp} {a s k : Addr} {tb : Tbs} {R : Rws} {ad : Str → Addr} {t : Str} (h : TabX C G G a s tb R k ad) (ht : t ∈ tb.map (·.1)) (w : RwOk tb R) : Sx (spRows C) [.ref a, .str t] G fun v G' => RwsV v (srtD (tOf R t)) G' := fun H sb Q E q => ⟨a, t, s, tb, R, k, ad, G, rfl, sb, h, ht, w, q⟩
abbrev N_Tables_rows : List Str := ["self", "table", "some", "ident"]
theorem sc_Tables_rows : FnScope N_Tables_rows ["self", "table"] (defScope s_Tables_rows) := ⟨rfl, rfl, rfl, by decide +kernel, rfl, by decide +kernel, by decide +kernel⟩
-- slots: 0 self, 1 table, 2 some*, 3 ident
theorem c_Tables_rows (T : Tx K mg) : Met P w K mg base 1 (He.ga K "Tables") "rows" (spRows (He.ga K "Tables")) := by
  refine ⟨_, _, ["self", "table"], T.cl_Tables, T.m_Tables_rows, fn_body T.f_Tables_rows sc_Tables_rows (fun vs H Q E h => by obtain ⟨_, _, _, _, _, _, _, _, rfl, _⟩ := h; rfl) (fun cdv A outer s H vs Q E hr h => ?_), T.f_Tables_rows.bindsN fun _ _ _ _ _ _ us hl => match us, hl with | [_, _], _ => rfl⟩
  obtain ⟨a, t, s', tb, R, kk, ad, G, rfl, sG, hT, ht, oR, k⟩ := h
  have hu := hu_of hr
  refine ⟨_,
    (pss_cons (ps_set (i := 2) sc_Tables_rows.nd rfl (Or.inr rfl) (pe_dget hu (pe_fldK rfl (pv 0) rfl) (pv 1) (fun _ _ => rfl)))
    (pss_one (ps_ret (pe_dc rfl sc_Tables_rows.nd (pi_listK rfl (pe_callB (cr_sortedD rfl) (by rfl) T.b_sorted (by decide +kernel) (pa_cons (pv 2) pa_nil))) (blkOk_by (own := [("ident", 3)]) (N := N_Tables_rows) (sc := defScope s_Tables_rows) (by decide +kernel)) (fun _ _ _ _ _ => (pg_name (i := 3) sc_Tables_rows.nd rfl (Or.inl rfl))) (fun _ _ _ _ _ => pts_nil) (fun _ _ _ _ _ => (pv 3)) (fun _ _ _ _ _ => (pe_callTy cr_dictD (by rfl) T.b_dict (by decide +kernel) (pa_cons (pe_dget hu (pv 2) (pv 3) (fun _ _ => rfl)) pa_nil))))))), ?_⟩
  obtain ⟨kvs, h1, h2⟩ := hT.inn t ht
  have nd := tOf_nodup oR.nd t
  have hl := tOf_len R t
  have hl2 := oR.len
  refine q_set sG (gv_keptT T hT (gv_var rfl) ht (gv_var rfl)) fun H1 e1 => ?_
  refine s_retX (sG.same e1) (ge_gm (gm_dc (ds := srtD (tOf R t)) (up := upN 3 fun q => .str q.1) (fun q => Sum.inr q.1) (fun q v G' => RowV v q.2 G') (fun d v G1 G2 e r => row_mono _ _ _ _ e r)
      ((gi_listN (ds := sortS ((tOf R t).map (·.1))) (emb := V.str) (gl_sortedD (ks := (tOf R t).map (·.1)) (gv_var rfl) h1 h2.keys (by rw [List.length_map]; omega))).from_ (fun q => q.1) (srtD_keys (tOf R t)).symm fun _ _ _ => rfl) (by rw [srtD_len]; omega) (fun _ _ => rfl) (pw_inr (srtD_nodup nd)) (fun q hq G' e => gv_var rfl) (fun q hq G' e => ?_) fun _ _ _ _ => trivial) fun c o G' e gc hx => ?_) fun v G2 H2 s2 f => k v G2 H2 (s2.pre e1) f
  · obtain ⟨v, ev, ra, rfl, hra⟩ := ((h2.mono row_mono e).get q.1).1 q.2 (valD_of nd (srtD_mem.mp hq))
    exact ge_gn (gd_dictD (gv_dget (k := Sum.inr q.1) (gv_var rfl) (gv_var rfl) (e _ _ h1) ev) hra) fun p hp => ⟨p, rfl, upd_same⟩
  · obtain ⟨fks, rfl, al⟩ := hx
    have := all2_zipmap (R := fun (kv : Key × V) (q : Str × Row) => kv.1 = Sum.inr q.1 ∧ RowV kv.2 q.2 G') (f := fun q : Str × Row => q) al
    rw [List.map_id'] at this
    exact ⟨c, fks, rfl, upd_same, PrD.mono row_mono (Same.put gc) this⟩
def spTarget (CS CT : Addr) : Sp := fun vs H Q _ => ∃ a t i f r fs u x s tb rs R k ad G, vs = [.ref a, .str t, .str i, .str f] ∧ Sub G H ∧ TabX CT G G a s tb R k ad ∧ SchAt CS G s tb rs ∧ t ∈ tb.map (·.1) ∧ u ∈ tb.map (·.1) ∧ valD tb t = some fs ∧ valD fs f = some (.link u) ∧ valD (tOf R t) i = some r ∧ valD r f = some x ∧ ∀ H', Same H H' → Q (ov (if hasR R u x then x else none)) H'
abbrev N_Tables_target : List Str := ["self", "table", "ident", "field", "found"]
theorem sc_Tables_target : FnScope N_Tables_target ["self", "table", "ident", "field"] (defScope s_Tables_target) := ⟨rfl, rfl, rfl, by decide +kernel, rfl, by decide +kernel, by decide +kernel⟩
-- slots: 0 self, 1 table, 2 ident, 3 field, 4 found
theorem c_Tables_target (T : Tx K mg) : Met P w K mg base 2 (He.ga K "Tables") "target" (spTarget (He.ga K "Schema") (He.ga K "Tables")) := by
  refine ⟨_, _, ["self", "table", "ident", "field"], T.cl_Tables, T.m_Tables_target, fn_body T.f_Tables_target sc_Tables_target (fun vs H Q E h => by obtain ⟨_, _, _, _, _, _, _, _, _, _, _, _, _, _, _, rfl, _⟩ := h; rfl) (fun cdv A outer s H vs Q E hr h => ?_), T.f_Tables_target.bindsN fun _ _ _ _ _ _ us hl => match us, hl with | [_, _, _, _], _ => rfl⟩
  obtain ⟨a, t, i, f, r, fs, u, x, s', tb, rs, R, kk, ad, G, rfl, sG, hT, hS, ht, hu', e1, e2, e3, e4, k⟩ := h
  have hu := hu_of hr
  refine ⟨_,
    (pss_cons (ps_set (i := 4) sc_Tables_target.nd rfl (Or.inl rfl) (pe_dget hu (pe_dget hu (pe_dget hu (pe_fldK rfl (pv 0) rfl) (pv 1) (fun _ _ => rfl)) (pv 2) (fun _ _ => rfl)) (pv 3) (fun _ _ => rfl)))
    (pss_one (ps_ret (pe_ifExp (pt_val (pe_met (c_Tables_has_row T) hr (by decide) (pv 0) (pa_cons (pe_met (c_Schema_leads_to T) hr (by decide) (pe_fldK rfl (pv 0) rfl) (pa_cons (pv 1) (pa_cons (pv 3) pa_nil))) (pa_cons (pv 4) pa_nil)))) (pv 4) pe_non)))), ?_⟩
  obtain ⟨kvs, h1, h2⟩ := hT.inn t ht
  obtain ⟨v, ev, ra, rfl, hra⟩ := (h2.get i).1 r e3
  obtain ⟨dx, hi⟩ := id hT.ins
  obtain ⟨ds, d, l, hs, _⟩ := id hS
  refine q_set sG (gv_dget (v := ov x) (k := Sum.inr f) (gv_dget (k := Sum.inr i) (gv_keptT T hT (gv_var rfl) ht (gv_var rfl)) (gv_var rfl) h1 ev) (gv_var rfl) hra (by rw [rowK_val, e4]; rfl)) fun H1 s1 => ?_
  refine s_ret (sG.same s1) (gv_if (b := hasR R u x) (gt_test (gv_meth (gv_var rfl) hi rfl (ga_cons (gv_meth (gv_fld (gv_var rfl) hi T.cl_Tables T.na_its_schema rfl) hs rfl (ga_cons (gv_var rfl) (ga_cons (gv_var rfl) ga_nil)) (sv_leads hS e1 e2)) (ga_cons (gv_var rfl) ga_nil)) (sv_hasRow hT hu'))) (fun hb => ?_) fun hb => ?_) fun H2 s2 => k H2 (s1.trans s2)
  · rw [hb]; exact gv_var rfl
  · rw [hb]; exact gv_c
end
end K25

/-! F13 -/
namespace K25
open PySem PySem.Spec PyProof.Rows L2
/-! ### what is told for a while -/
def tel (G H : Hp) (M : List Addr) : Hp := fun b => if b ∈ M then H b else G b
theorem tel_sub {G H : Hp} {M : List Addr} (s : Sub G H) : Sub (tel G H M) H := fun a o h => by
  unfold tel at h
  by_cases m : a ∈ M
  · rw [if_pos m] at h; exact .inl h
  · rw [if_neg m] at h; exact s a o h
theorem tel_same {G H : Hp} {M : List Addr} (h : ∀ m ∈ M, G m = none) : Same G (tel G H M) := fun a o e => by
  unfold tel
  rw [if_neg fun m => by rw [h a m] at e; cases e]
  exact e
theorem tel_in {G H : Hp} {M : List Addr} {a : Addr} (h : a ∈ M) : tel G H M a = H a := by unfold tel; rw [if_pos h]
def adL (tb : Tbs) (ad : Str → Addr) : List Addr := (nms tb).map ad
theorem adL_mem {tb : Tbs} {ad : Str → Addr} {t : Str} (h : t ∈ tb.map (·.1)) : ad t ∈ adL tb ad := List.mem_map.mpr ⟨t, h, rfl⟩
theorem TabX.tel {C : Addr} {G H : Hp} {a s k : Addr} {tb : Tbs} {R : Rws} {ad : Str → Addr} (h : TabX C G H a s tb R k ad) (hG : ∀ t ∈ tb.map (·.1), G (ad t) = none) : TabX C (tel G H (adL tb ad)) (tel G H (adL tb ad)) a s tb R k ad :=
  h.mono (tel_same fun m hm => by obtain ⟨t, ht, rfl⟩ := List.mem_map.mp hm; exact hG t ht) fun t ht o e => by rw [tel_in (adL_mem ht)]; exact e
theorem tel_G {G H : Hp} {tb : Tbs} {ad : Str → Addr} (hG : ∀ t ∈ tb.map (·.1), G (ad t) = none) : Same G (K25.tel G H (adL tb ad)) := tel_same fun m hm => by obtain ⟨t, ht, rfl⟩ := List.mem_map.mp hm; exact hG t ht
theorem srtD_id {α : Type} {l : List (Str × α)} (h : SrD l) : srtD l = l := List.mergeSort_of_pairwise (List.pairwise_map.mp h)
/-- one row is put -/
theorem TabX.put {C : Addr} {G H G' H' : Hp} {a s k : Addr} {tb : Tbs} {R : Rws} {ad : Str → Addr} {i t : Str} {r : Row} (h : TabX C G H a s tb R k ad) (ht : t ∈ tb.map (·.1)) (inj : ∀ t ∈ tb.map (·.1), ∀ u ∈ tb.map (·.1), ad t = ad u → t = u) (hi : ∀ q ∈ R, q.1 = i → q.2.1 = t)
    (st : Stp G (wo [ad t] H) G' H') (hk : ∃ kvs, H' (ad t) = some (.dK kvs) ∧ PrD RowV G' kvs (putD (tOf R t) i r)) : TabX C G' H' a s tb (putD R i (t, r)) k ad where
  ins := let ⟨dx, e⟩ := h.ins; ⟨dx, st.ex _ _ e⟩
  kept := st.ex _ _ h.kept
  inn := fun u hu => by
    by_cases e : u = t
    · subst e
      rw [(tOf_put hi).1]
      exact hk
    · rw [(tOf_put hi).2 u e]
      obtain ⟨kvs, h1, h2⟩ := h.inn u hu
      exact ⟨kvs, st.keep _ _ (by rw [wo_out (by simpa using fun z => e (inj u hu t ht z))]; exact h1), h2.mono row_mono st.ex⟩
theorem TabX.drop {C : Addr} {G H G' H' : Hp} {a s k : Addr} {tb : Tbs} {R : Rws} {ad : Str → Addr} {i t : Str} (h : TabX C G H a s tb R k ad) (ht : t ∈ tb.map (·.1)) (inj : ∀ t ∈ tb.map (·.1), ∀ u ∈ tb.map (·.1), ad t = ad u → t = u) (hi : ∀ u, u ≠ t → i ∉ (tOf R u).map (·.1))
    (st : Stp G (wo [ad t] H) G' H') (hk : ∃ kvs, H' (ad t) = some (.dK kvs) ∧ PrD RowV G' kvs (dropD (tOf R t) i)) : TabX C G' H' a s tb (dropD R i) k ad where
  ins := let ⟨dx, e⟩ := h.ins; ⟨dx, st.ex _ _ e⟩
  kept := st.ex _ _ h.kept
  inn := fun u hu => by
    rw [tOf_drop]
    by_cases e : u = t
    · subst e
      exact hk
    · have : dropD (tOf R u) i = tOf R u := List.filter_eq_self.mpr fun p hp => decide_eq_true fun z => hi u e (List.mem_map.mpr ⟨p, hp, z⟩)
      rw [this]
      obtain ⟨kvs, h1, h2⟩ := h.inn u hu
      exact ⟨kvs, st.keep _ _ (by rw [wo_out (by simpa using fun z => e (inj u hu t ht z))]; exact h1), h2.mono row_mono st.ex⟩
section
variable {P : Program} {w : World} {K : PySem.W.Frag} {mg : Str → Option Value} {base : Heap}
def spSetItem (CS CT : Addr) : Sp := fun vs H Q _ => ∃ a p b t i r fs s tb rs R k ad G, vs = [.ref a, .ref p, .ref b] ∧ Sub G H ∧ G p = some (.tup [.str t, .str i]) ∧ G b = some (.dK (rowK r)) ∧ TabX CT G H a s tb R k ad ∧ (∀ t ∈ tb.map (·.1), G (ad t) = none) ∧ SchAt CS G s tb rs ∧ TbsOk tb ∧ CanT tb ∧ RwOk tb R ∧
  valD tb t = some fs ∧ RowC fs r ∧ Nm i ∧ (∀ q ∈ R, q.1 = i → q.2.1 = t) ∧ ∀ G' H', Stp G (wo [ad t] H) G' H' → G' (ad t) = none → (∃ kvs, H' (ad t) = some (.dK kvs) ∧ PrD RowV G' kvs (putD (tOf R t) i r)) → Q .non H'
abbrev N_Tables_setitem : List Str := ["self", "at", "worth", "table", "ident", "there", "name"]
theorem sc_Tables_setitem : FnScope N_Tables_setitem ["self", "at", "worth"] (defScope s_Tables_setitem) := ⟨rfl, rfl, rfl, by decide +kernel, rfl, by decide +kernel, by decide +kernel⟩
-- slots: 0 self, 1 at, 2 worth*, 3 table, 4 ident, 5 there, 6 name
theorem c_Tables_setitem (T : Tx K mg) : Met P w K mg base 5 (He.ga K "Tables") "__setitem__" (spSetItem (He.ga K "Schema") (He.ga K "Tables")) := by
  refine ⟨_, _, ["self", "at", "worth"], T.cl_Tables, T.m_Tables_setitem, fn_body T.f_Tables_setitem sc_Tables_setitem (fun vs H Q E h => by obtain ⟨_, _, _, _, _, _, _, _, _, _, _, _, _, _, rfl, _⟩ := h; rfl) (fun cdv A outer s H vs Q E hr h => ?_), T.f_Tables_setitem.bindsN fun _ _ _ _ _ _ us hl => match us, hl with | [_, _, _], _ => rfl⟩
  obtain ⟨a, p, b, t, i, r, fs, s', tb, rs, R, kk, ad, G, rfl, sG, hp, hb, hT, hG, hS, oT, cT, oR, e1, oC, nI, hI, k⟩ := h
  have hu := hu_of hr
  refine ⟨_,
    (pss_cons (ps_asg (pv 1) (pg_tupK (n := 2) rfl rfl (pgs_cons (pg_name (i := 3) sc_Tables_setitem.nd rfl (Or.inl rfl)) (pgs_cons (pg_name (i := 4) sc_Tables_setitem.nd rfl (Or.inl rfl)) pgs_nil))))
    (pss_cons (ps_if (PW.pt (pw_or (pt_not (pt_val (pe_callB (call_isiK rfl) (by rfl) T.b_isinstance (by decide +kernel) (pa_cons (pv 3) (pa_cons (pe_bltn (v := .ty "str") (by rfl) T.b_str (by decide +kernel) rfl) pa_nil))))) (pw_or (pt_cmp (pc_dnotin hu (pv 3) (pe_fldK rfl (pv 0) rfl))) (pw_or1 (pt_not (pt_val (pe_cal (c_is_id T) hr (by decide) rfl (pa_cons (pv 4) pa_nil))))))))
      (pss_one ps_never)
      pss_nil)
    (pss_cons (ps_if (pt_not (pt_val (pe_met (c_Schema_is_row T) hr (by decide) (pe_fldK rfl (pv 0) rfl) (pa_cons (pv 3) (pa_cons (pv 2) pa_nil)))))
      (pss_one ps_never)
      pss_nil)
    (pss_cons (ps_set (i := 5) sc_Tables_setitem.nd rfl (Or.inl rfl) (pe_met (c_Tables_table_of T) hr (by decide) (pv 0) (pa_cons (pv 4) pa_nil)))
    (pss_cons (ps_if (PW.pt (pw_and (pt_cmpR op_notN (pv 5) pe_non (nomark _)) (pw_and1 (pt_cmpR op_ne (pv 5) (pv 3) (nomark _)))))
      (pss_one ps_never)
      pss_nil)
    (pss_cons (ps_if (PW.pt (pw_and (pt_cmpR op_isN (pv 5) pe_non (nomark _)) (pw_and1 (pt_cmpR op_ge (pe_callB (call_lenOwn (c_Tables_len T) hr (by decide)) (by rfl) T.b_len (by decide +kernel) (pa_cons (pv 0) pa_nil)) (pe_gint rfl T.MOST) (nomark _)))))
      (pss_one ps_never)
      pss_nil)
    (pss_one (ps_dput hu (pe_dget hu (pe_fldK rfl (pv 0) rfl) (pv 3) (fun _ _ => rfl)) (pv 4) (pe_dc rfl sc_Tables_setitem.nd (pi_listK rfl (pe_callB (cr_sortedD rfl) (by rfl) T.b_sorted (by decide +kernel) (pa_cons (pv 2) pa_nil))) (blkOk_by (own := [("name", 6)]) (N := N_Tables_setitem) (sc := defScope s_Tables_setitem) (by decide +kernel)) (fun _ _ _ _ _ => (pg_name (i := 6) sc_Tables_setitem.nd rfl (Or.inl rfl))) (fun _ _ _ _ _ => pts_nil) (fun _ _ _ _ _ => (pv 6)) (fun _ _ _ _ _ => (pe_dget hu (pv 2) (pv 6) (fun _ _ => rfl)))) rfl)))))))), ?_⟩
  have ht : t ∈ tb.map (·.1) := List.mem_map.mpr ⟨_, valD_mem e1, rfl⟩
  obtain ⟨dx, hi⟩ := id hT.ins
  obtain ⟨ds, d, l, hs, _⟩ := id hS
  have okf := (oT.fs e1).1
  have hTt := hT.tel hG
  have eG : Same G (tel G H (adL tb ad)) := tel_G hG
  have sT : Sub (tel G H (adL tb ad)) H := tel_sub sG
  have hit := eG _ _ hi
  have hst := eG _ _ hs
  have hSt := hS.mono eG
  have hbt := eG _ _ hb
  obtain ⟨kvs, hk1, hk2⟩ := hT.inn t ht
  refine q_two sT (gv_var rfl) (eG _ _ hp) fun H1 s1 => ?_
  replace sT := sT.same s1
  refine q_no sT (gt_or (b := false) (c := false) (gt_not (gt_B (gv_isiY (gv_var rfl) ty_str))) fun _ => gt_or (b := false) (c := false) (gt_test (gv_eq (by rw [valV_kept ht]; rfl) (gv_dnotin (k := Sum.inr t) (gv_var rfl) (gv_kept T hTt (gv_var rfl)) hTt.kept))) fun _ => gt_not (gt_test (gv_call (ga_cons (gv_var rfl) ga_nil) (sv_isName nI)))) fun H2 s2 => ?_
  replace sT := sT.same s2
  refine q_no sT (gt_not (b := true) (gt_B (gv_meth (gv_fld (gv_var rfl) hit T.cl_Tables T.na_its_schema rfl) hst rfl (ga_cons (gv_var rfl) (ga_cons (gv_var rfl) ga_nil)) fun H sb Q E q => ⟨s', t, b, tb, rs, fs, r, tel G _ (adL tb ad), rfl, sb, hSt, oT, e1, hbt, oC.rowOk okf, q⟩))) fun H3 s3 => ?_
  replace sT := sT.same s3
  refine q_set sT (gv_meth (gv_var rfl) hit rfl (ga_cons (gv_var rfl) ga_nil) (sv_tabOf hTt)) fun H4 s4 => ?_
  replace sT := sT.same s4
  have s14 := (s1.trans s2).trans (s3.trans s4)
  have tabQ : tabOf tb R i = none ∨ tabOf tb R i = some t := by
    by_cases m : i ∈ R.map (·.1)
    · obtain ⟨⟨j, u, r2⟩, hq, rfl⟩ := List.mem_map.mp m
      have := hI _ hq rfl
      simp only at this
      subst this
      exact .inr (tabOf_in oR hq)
    · exact .inl (tabOf_out m)
  refine q_no sT (gt_eq (b := (!decide (ov (tabOf tb R i) = .non)) && (!decide (ov (tabOf tb R i) = .str t))) ?_ (gt_and (gt_test (gv_op (gv_var rfl) gv_c rv_notN)) fun hn => gt_test (gv_op (gv_var rfl) (gv_var rfl) (rv_ne ?_)))) fun H5 s5 => ?_
  · rcases tabQ with e | e <;> rw [e] <;> simp [ov]
  · rcases tabQ with e | e <;> rw [e] <;> rfl
  replace sT := sT.same s5
  have hl10 := oR.len
  refine q_no sT (gt_eq (b := decide (ov (tabOf tb R i) = .non) && decide ((200 : Int) ≤ ((R.length : Nat) : Int))) ?_ (gt_and (gt_test (gv_op (gv_var rfl) gv_c rv_isN)) fun hn => gt_test (gv_op (x := .int (R.length : Nat)) (gv_cb (ga_cons (gv_var rfl) ga_nil) fun H sb Q q => ⟨a, dx, _, rfl, sb.ins hit, a, s', tb, R, kk, ad, tel G _ (adL tb ad), rfl, sb, hTt, oT, oR, fun H' e' => ⟨_, rfl, by omega, by omega, q H' e'⟩⟩) gv_c rv_I0))) fun H6 s6 => ?_
  · rw [decide_eq_false (p := (200 : Int) ≤ _) (by omega), Bool.and_false]
  replace sT := sT.same s6
  have s16 := s14.trans (s5.trans s6)
  have srt : srtD r = r := srtD_id (by unfold SrD; rw [oC.ks]; exact cT.2 _ (valD_mem e1))
  have nd : (r.map (·.1)).Nodup := by rw [oC.ks]; exact okf.nd
  have st : Stp G (wo [ad t] H) G H6 := (Stp.wo sG).grow s16
  have ow : Own (wo [ad t] H) G (ad t) H6 (.dK kvs) := ⟨wo_in (by simp), hG t ht, s16 _ _ hk1⟩
  have hll := okf.len
  have hrl : r.length ≤ 6 := by have := congrArg List.length oC.ks; simp at this; omega
  refine s_dput st.sub (ge_gm (Φ := fun v G' => RowV v r G') (gm_dc (ds := r) (up := upN 6 fun q => .str q.1) (fun q => Sum.inr q.1) (fun q v G' => v = ov q.2) (fun d v G1 G2 e r => r)
      ((gi_listN (ds := sortS (r.map (·.1))) (emb := V.str) (gl_sortedD (ks := r.map (·.1)) (gv_var rfl) hb (by unfold rowK; rw [List.map_map, List.map_map]; rfl) (by rw [List.length_map]; omega))).from_ (fun q => q.1) (by rw [← srtD_keys, srt]) fun _ _ _ => rfl) (by omega) (fun _ _ => rfl) (pw_inr nd) (fun q hq G' e => gv_var rfl) (fun q hq G' e => (gv_dget (k := Sum.inr q.1) (gv_var rfl) (gv_var rfl) (e _ _ hb) (by rw [rowK_val, valD_of nd hq]; rfl)).gx.imp fun v G'' e h => h.1) fun _ _ _ _ => trivial) fun c o G' e gc hx => ?_) fun v G7 H7 s7 hv => ?_
  · obtain ⟨fks, rfl, al⟩ := hx
    refine ⟨c, rfl, ?_⟩
    rw [upd_same]
    refine congrArg (fun z => some (HO.dK z)) ?_
    unfold rowK
    clear hrl hll srt nd oC hb hbt k
    induction al with
    | nil => rfl
    | @cons q kv l m h _ ih =>
      rw [List.map_cons, ← ih]
      obtain ⟨kv1, kv2⟩ := kv
      obtain ⟨h1, h2⟩ := h
      simp only at h1 h2
      rw [h1, h2]
  · have ow7 := ow.step s7
    have st7 := st.trans s7
    have eG7 : ∀ t ∈ tb.map (·.1), G7 (ad t) = none := fun u hu => by
      have hH : H6 (ad u) ≠ none := by
        obtain ⟨kv2, z1, _⟩ := hT.inn u hu
        rw [s16 _ _ z1]; simp
      exact s7.new _ (hG u hu) hH
    have hT7 : TabX (He.ga K "Tables") G7 H7 a s' tb R kk ad := hT.mono s7.ex fun u hu o e => s7.keep _ _ (s16 _ _ e)
    have hT7t := hT7.tel eG7
    refine ⟨tel G7 H7 (adL tb ad), ad t, Sum.inr i, kvs, tel_sub st7.sub, gv_keptT T hT7t (gv_var rfl) ht (gv_var rfl), gv_var rfl, ow7.at_, ?_, fun H8 e8 => ?_⟩
    · rw [hk2.length, sizeLine_eq]
      have := tOf_len R t
      omega
    · exact k G7 _ ((st7.grow e8).writeO (ow7.grow e8)) ow7.g ⟨_, upd_same, prD_put (hk2.mono row_mono s7.ex) hv⟩
def spDrop (CT : Addr) : Sp := fun vs H Q _ => ∃ a t i r s tb R k ad G, vs = [.ref a, .str t, .str i] ∧ Sub G H ∧ TabX CT G H a s tb R k ad ∧ (∀ t ∈ tb.map (·.1), G (ad t) = none) ∧ t ∈ tb.map (·.1) ∧ valD (tOf R t) i = some r ∧
  ∀ H', Stp G (wo [ad t] H) G H' → (∃ kvs, H' (ad t) = some (.dK kvs) ∧ PrD RowV G kvs (dropD (tOf R t) i)) → Q .non H'
abbrev N_Tables_drop : List Str := ["self", "table", "ident"]
theorem sc_Tables_drop : FnScope N_Tables_drop ["self", "table", "ident"] (defScope s_Tables_drop) := ⟨rfl, rfl, rfl, by decide +kernel, rfl, by decide +kernel, by decide +kernel⟩
-- slots: 0 self, 1 table, 2 ident
theorem c_Tables_drop (T : Tx K mg) : Met P w K mg base 2 (He.ga K "Tables") "drop" (spDrop (He.ga K "Tables")) := by
  refine ⟨_, _, ["self", "table", "ident"], T.cl_Tables, T.m_Tables_drop, fn_body T.f_Tables_drop sc_Tables_drop (fun vs H Q E h => by obtain ⟨_, _, _, _, _, _, _, _, _, _, rfl, _⟩ := h; rfl) (fun cdv A outer s H vs Q E hr h => ?_), T.f_Tables_drop.bindsN fun _ _ _ _ _ _ us hl => match us, hl with | [_, _, _], _ => rfl⟩
  obtain ⟨a, t, i, r, s', tb, R, kk, ad, G, rfl, sG, hT, hG, ht, e, k⟩ := h
  have hu := hu_of hr
  refine ⟨_,
    (pss_cons (ps_if (pt_not (pt_val (pe_met (c_Tables_has_row T) hr (by decide) (pv 0) (pa_cons (pv 1) (pa_cons (pv 2) pa_nil)))))
      (pss_one ps_never)
      pss_nil)
    (pss_one (ps_ddel (pe_dget hu (pe_fldK rfl (pv 0) rfl) (pv 1) (fun _ _ => rfl)) (pv 2)))), ?_⟩
  obtain ⟨dx, hi⟩ := id hT.ins
  have hTt := hT.tel hG
  have eG : Same G (tel G H (adL tb ad)) := tel_G hG
  have sT : Sub (tel G H (adL tb ad)) H := tel_sub sG
  obtain ⟨kvs, hk1, hk2⟩ := hT.inn t ht
  have hin : hasR R t (some i) = true := decide_eq_true (List.mem_map.mpr ⟨_, valD_mem e, rfl⟩)
  refine q_no sT (gt_eq (by rw [hin]; rfl) (gt_not (gt_test (gv_meth (gv_var rfl) (eG _ _ hi) rfl (ga_cons (gv_var rfl) (ga_cons (gv_var rfl) ga_nil)) (sv_hasRow (x := some i) hTt ht))))) fun H1 e1 => ?_
  replace sT := sT.same e1
  have st : Stp G (wo [ad t] H) G H1 := (Stp.wo sG).grow e1
  have ow : Own (wo [ad t] H) G (ad t) H1 (.dK kvs) := ⟨wo_in (by simp), hG t ht, e1 _ _ hk1⟩
  refine s_ddel sT (gv_keptT T hTt (gv_var rfl) ht (gv_var rfl)) (k := Sum.inr i) (gv_var rfl) ow.at_ (by rw [hk2.some, e]; rfl) fun H2 e2 => ?_
  exact k _ ((st.grow e2).writeO (ow.grow e2)) ⟨_, upd_same, prD_drop hk2 i⟩
end
end K25

/-! K15 -/
/-! K15: sorted lists of tuples of texts. -/
namespace SrtO
open PySem PyProof.Rows
abbrev cdS (x : List PySem.Str) : List (List Nat) := x.map fun s => s.cps.toList
def lexS (x y : List PySem.Str) : Bool := decide (cdS x < cdS y)
theorem lexS_no {x y : List PySem.Str} : lexS x y = false ↔ cdS y ≤ cdS x := by
  unfold lexS
  rw [decide_eq_false_iff_not, List.not_lt]
theorem swoS (k : Value → List PySem.Str) : Swo fun v u => lexS (k v) (k u) := by
  refine ⟨fun x y h => ?_, fun x y z h1 h2 => ?_⟩
  · rw [lexS_no]
    exact List.le_of_lt (of_decide_eq_true h)
  · rw [lexS_no] at *
    exact List.le_trans h1 h2
def TupS (h : Heap) (v : Value) (xs : List PySem.Str) : Prop := ∃ a o us n, v = .ref a ∧ h.get? a = some o ∧ o.cls = .type "tuple" ∧ o.data = .seq us n ∧ StrsAre us.toList xs
theorem TupS.keeps {h h' : Heap} {v : Value} {xs : List PySem.Str} (p : TupS h v xs) (k : ∀ b o, h.get? b = some o → o.cls = .type "tuple" → h'.get? b = some o) : TupS h' v xs := by
  obtain ⟨a, o, us, n, e, ho, hc, hd, hs⟩ := p
  exact ⟨a, o, us, n, e, k _ _ ho hc, hc, hd, hs⟩
section
variable {prog : Program} {w : World} {A : Around} {E : Value → Shared → Prop} {s : Shared}
theorem cd_cons (a b : PySem.Str) (x y : List PySem.Str) : lexS (a :: x) (b :: y) = if a = b then lexS x y else decide (a.cps.toList < b.cps.toList) := by
  unfold lexS
  by_cases e : a = b
  · subst e
    rw [if_pos rfl]
    refine decide_eq_decide.mpr ?_
    show a.cps.toList :: cdS x < a.cps.toList :: cdS y ↔ _
    rw [List.cons_lt_cons_iff]
    constructor
    · rintro (h | h)
      · exact absurd h (List.lt_irrefl _)
      · exact h.2
    · exact fun h => .inr ⟨rfl, h⟩
  · rw [if_neg e]
    refine decide_eq_decide.mpr ?_
    show a.cps.toList :: cdS x < b.cps.toList :: cdS y ↔ _
    rw [List.cons_lt_cons_iff]
    constructor
    · rintro (h | h)
      · exact h
      · exact absurd (K25.str_ext h.1) e
    · exact fun h => .inl h
theorem katS {c : Bool} : ∀ {us vs : List Value} {xs ys : List PySem.Str} (i : Nat), StrsAre us xs → StrsAre vs ys → ∀ fin, (xs = [] ∨ ys = [] → fin = lexS xs ys) → (xs ≠ [] → ys ≠ [] → fin = decide (xs.length < ys.length)) → PySem.W.KatLex prog w A c fin (fun r s' => s' = s ∧ r = lexS xs ys) (us.zip vs) i s
  | _, _, _, _, i, .nil, h2, fin, f1, _ => by
    rw [List.zip_nil_left]
    exact PySem.W.kat_nil ⟨rfl, f1 (.inl rfl)⟩
  | _, _, _, _, i, h1, .nil, fin, f1, _ => by
    rw [List.zip_nil_right]
    exact PySem.W.kat_nil ⟨rfl, f1 (.inr rfl)⟩
  | _, _, _, _, i, @StrsAre.cons x t _ l h1, @StrsAre.cons y u _ m h2, fin, f1, f2 => by
    rw [List.zip_cons_cons]
    refine PySem.W.kat_cons (SeqAt.EqAt.str_str x t y u prog w _ _ ?_)
    have hfin := f2 (by simp) (by simp)
    refine PySem.W.kat_go (fun e1 => ?_) (fun e1 => ?_)
    · have ex : x = y := by simpa using e1
      refine PySem.W.kat_yes ?_
      have e3 := cd_cons x y l m
      rw [if_pos ex] at e3
      rw [e3]
      refine katS (i + 1) h1 h2 fin (fun hn => ?_) fun _ _ => by rw [hfin]; simp
      rw [hfin]
      unfold lexS
      rcases hn with rfl | rfl
      · cases m <;> simp [cdS]
      · cases l <;> simp [cdS]
    · have ex : ¬ x = y := by simpa using e1
      have e3 := cd_cons x y l m
      rw [if_neg ex] at e3
      refine PySem.W.kat_no (PyProof.Rows.oneLt_any_str ⟨rfl, e3.symm⟩)
theorem cmpS {vs : List Value} {k : Value → List PySem.Str} (hp : ∀ v ∈ vs, TupS s.heap v (k v)) : Cmp prog w A s (tuples' true) (fun p => p.1 ∈ vs) (lt2 fun v u => lexS (k v) (k u)) := by
  intro p q hm hm'
  obtain ⟨a, o, us, n, e, ho, hc, hd, hs⟩ := hp _ hm
  obtain ⟨a', o', us', n', e', ho', hc', hd', hs'⟩ := hp _ hm'
  show wpAny (model prog w) A (keyLt' (tuples' true) p.1 q.1) (fun r s' => s' = s ∧ r = lexS (k p.1) (k q.1)) (fun _ _ => False) s
  generalize k p.1 = xs at hs ⊢
  generalize k q.1 = ys at hs' ⊢
  rw [e, e']
  refine PySem.W.kat_lt ho hd ho' hd' ?_
  have l1 := hs.length
  have l2 := hs'.length
  rw [Array.length_toList] at l1 l2
  refine katS 0 hs hs' _ (fun hn => ?_) fun _ _ => by rw [l1, l2]
  rw [l1, l2]
  unfold lexS
  rcases hn with rfl | rfl
  · cases ys <;> simp [cdS]
  · cases xs <;> simp [cdS]
theorem firstsS {h : Heap} {k : Value → List PySem.Str} : ∀ {vs : List Value}, (∀ v ∈ vs, TupS h v (k v) ∧ k v ≠ []) → ∃ fs : List Value, PySem.W.KatTups h vs fs ∧ fs.length = vs.length ∧ ∀ f ∈ fs, ∃ x t, f = Value.str x t
  | [], _ => ⟨[], PySem.W.KatTups.nil, rfl, fun _ hm => by simp at hm⟩
  | v :: vs, hp => by
    obtain ⟨fs, h1, h2, h3⟩ := firstsS (vs := vs) fun v' hm => hp v' (List.mem_cons_of_mem _ hm)
    obtain ⟨⟨a, o, us, n, e, ho, hc, hd, hs⟩, ne⟩ := hp v (List.mem_cons_self ..)
    subst e
    cases q : us.toList with
    | nil =>
      rw [q] at hs
      cases e2 : k (Value.ref a) with
      | nil => exact absurd e2 ne
      | cons y ys => rw [e2] at hs; cases hs
    | cons f r =>
      rw [q] at hs
      have hf : us[0]? = some f := by rw [← Array.getElem?_toList, q]; rfl
      have hfs : ∃ x t, f = Value.str x t := hs.all f List.mem_cons_self
      refine ⟨f :: fs, PySem.W.KatTups.cons ho hc hd hf h1, by rw [List.length_cons, List.length_cons, h2], fun g hm => ?_⟩
      rcases List.mem_cons.mp hm with rfl | hm
      · exact hfs
      · exact h3 g hm
theorem sortableS {a : Addr} {vs : List Value} {k : Value → List PySem.Str} (h0 : 0 < vs.length) (hp : ∀ v ∈ vs, TupS s.heap v (k v) ∧ k v ≠ []) (ha : ∀ o, s.heap.get? a = some o → o.cls ≠ .type "tuple") : SortableO prog w A s a vs fun v u => lexS (k v) (k u) := by
  intro h' keep
  have hp' : ∀ v ∈ vs, TupS h' v (k v) ∧ k v ≠ [] := fun v hm => ⟨(hp v hm).1.keeps fun b o e c => keep b o (fun z => by subst z; exact ha o e c) e, (hp v hm).2⟩
  obtain ⟨fs, h1, h2, h3⟩ := firstsS hp'
  refine ⟨tuples' true, fun Q E hq => ?_, cmpS fun v hm => (hp' v hm).1⟩
  refine PySem.W.kat_kind (T := .type "str") h1 (by omega) (fun f hm => ?_) (by rfl) ?_
  · obtain ⟨x, t, rfl⟩ := h3 f hm
    exact PySem.W.Looks.now
  · have e : (Value.type "str" != Value.type "tuple") = true := by first | decide +kernel | rfl | decide
    rw [e]
    exact hq
theorem sortedS' {l : Addr} {vs : List Value} {k : Value → List PySem.Str} {Q : Value → Shared → Prop} (hl : s.heap.IsList l vs.toArray) (hz : vs.length ≤ sizeLine) (hp : ∀ v ∈ vs, TupS s.heap v (k v) ∧ k v ≠ [])
    (h : ∀ (h' : Heap) (d : Addr) (out : List Value), Srtd (fun v u => lexS (k v) (k u)) out → out.Perm vs → (∀ b o, s.heap.get? b = some o → h'.get? b = some o) → s.heap.objs.size ≤ d → (∃ n, h'.get? d = some (seqObj "list" out.toArray n)) → Q (.ref d) { s with heap := h' }) :
    wpAny (model prog w) A (call (.builtin "sorted") [.ref l]) Q E s := by
  refine sorted_ord (swoS k) hl hz (fun h2 h₁ a ha kk => ?_) fun out hs hb => ?_
  · refine sortableS (s := { s with heap := h₁ }) (by omega) (fun v hm => ⟨(hp v hm).1.keeps fun b o e _ => (kk b o e).2, (hp v hm).2⟩) fun o e => ?_
    have e' : some o = some (seqObj "list" vs.toArray 0) := e.symm.trans ha
    cases e'
    intro c
    exact absurd (Value.type.inj c) (by decide)
  · exact h _ _ out hs hb.perm (fun b o e => sortedAll_old e) (Nat.le_succ _) (sortedAll_at s.heap vs out.toArray)
end
end SrtO
namespace K25
open PySem PySem.Spec PyProof.Rows L2
/-- sorted(xs), xs a list of tuples of texts, none empty; k tells a tuple's texts -/
def rSortedU (K : PySem.W.Frag) : List V → Hp → VK → Prop := fun vs H Q => ∃ (a : Addr) (L : List V) (k : V → List Str), vs = [V.ref a] ∧ SqL K H a L ∧ (∀ v ∈ L, ∃ t, v = .ref t ∧ H t = some (.tup ((k v).map V.str)) ∧ k v ≠ []) ∧
  ∀ (L' : List V) (p : Addr), L'.Perm L → L'.Pairwise (fun x y => SrtO.lexS (k y) (k x) = false) → H p = none → Q (.ref p) (upd H p (.lst L'))
theorem cr_sortedUK {X : Cx} {K : PySem.W.Frag} (hK : X.K = K) : CallR X (.builtin "sorted") (rSortedU K) := by
  subst hK
  intro pins s σ H vs us Q I r h
  obtain ⟨a, L, k, rfl, hs, hx, q⟩ := h
  obtain ⟨its, rv, hl, hz⟩ := I.list hs
  obtain ⟨u, rfl, ru⟩ := vals1 r
  obtain rfl : u = Value.ref a := ru
  obtain ⟨e1, e2⟩ := refs_back rv fun x m => by
    obtain ⟨t, e, _⟩ := hx x m
    exact ⟨t, e⟩
  refine SrtO.sortedS' (k := fun u => k (backV u)) hl.isList (by rw [← rv.length]; exact hz) (fun v hv => ?_) fun h' d out h1 h2 kp hd hn => ?_
  · obtain ⟨t, rfl⟩ := e2 v hv
    have hm : V.ref t ∈ L := by rw [e1]; exact List.mem_map.mpr ⟨_, hv, rfl⟩
    obtain ⟨t', e, ht, hne⟩ := hx _ hm
    cases e
    obtain ⟨_, its2, r2, o, ho, hc, n, hd⟩ := I.hok _ _ ht
    exact ⟨⟨t, o, _, n, rfl, ho, hc, hd, by show StrsAre its2.toArray.toList (k (V.ref t)); simpa using strsAre_of r2⟩, hne⟩
  · have h3 : ∀ u ∈ out, ∃ a, u = Value.ref a := fun u hu => e2 u (h2.mem_iff.mp hu)
    obtain ⟨n, hn⟩ := hn
    have hb : (out.map backV).Perm L := by
      rw [e1]
      exact h2.map backV
    refine ⟨.ref d, upd H d (.lst (out.map backV)), I.laid (t' := s.toks) kp hd ⟨?_, out, n, vals_back h3, hn⟩, rfl, q _ d hb (List.pairwise_map.mpr h1) (I.hok.fresh hd)⟩
    rw [hb.length_eq]
    exact hz
/-! ### the sorted list of tuples -/
def leP (x y : List Str) : Bool := !SrtO.lexS y x
theorem leP_iff {x y : List Str} : leP x y = true ↔ SrtO.cdS x ≤ SrtO.cdS y := by
  unfold leP
  rw [Bool.not_eq_true', SrtO.lexS_no]
theorem cd_inj : ∀ {x y : List Str}, SrtO.cdS x = SrtO.cdS y → x = y
  | [], [], _ => rfl
  | [], _ :: _, h => by simp [SrtO.cdS] at h
  | _ :: _, [], h => by simp [SrtO.cdS] at h
  | a :: x, b :: y, h => by
    simp only [SrtO.cdS, List.map_cons, List.cons.injEq] at h
    rw [str_ext h.1, cd_inj (x := x) (y := y) h.2]
def sortP (l : List (List Str)) : List (List Str) := l.mergeSort leP
theorem leP_trans (a b c : List Str) (h1 : leP a b = true) (h2 : leP b c = true) : leP a c = true := leP_iff.mpr (List.le_trans (leP_iff.mp h1) (leP_iff.mp h2))
theorem leP_total (a b : List Str) : (leP a b || leP b a) = true := by
  rw [Bool.or_eq_true, leP_iff, leP_iff]
  exact List.le_total _ _
theorem sortP_perm (l : List (List Str)) : (sortP l).Perm l := List.mergeSort_perm l leP
theorem sortP_pw (l : List (List Str)) : (sortP l).Pairwise fun a b => leP a b = true := List.pairwise_mergeSort leP_trans leP_total l
theorem sortP_eq {l m : List (List Str)} (p : m.Perm l) (h : m.Pairwise fun a b => leP a b = true) : m = sortP l :=
  List.Perm.eq_of_pairwise (le := fun a b => leP a b = true) (fun a b _ _ h1 h2 => cd_inj (List.le_antisymm (leP_iff.mp h1) (leP_iff.mp h2))) h (sortP_pw l) (p.trans (sortP_perm l).symm)
theorem sortP_congr {l m : List (List Str)} (p : m.Perm l) : sortP m = sortP l := sortP_eq ((sortP_perm m).trans p) (sortP_pw m)
/-- a list of tuples of texts -/
def TupA : RelD (List Str) := fun v xs G => ∃ a, v = .ref a ∧ G a = some (.tup (xs.map V.str))
theorem tup_mono : MonD TupA := fun v x G G' e ⟨a, h1, h2⟩ => ⟨a, h1, e _ _ h2⟩
def TusV : RelD (List (List Str)) := fun v l G => ∃ p vs, v = .ref p ∧ G p = some (.lst vs) ∧ All2 (fun v x => TupA v x G) vs l
theorem tus_mono : MonD TusV := fun v x G G' e ⟨a, vs, h1, h2, h3⟩ => ⟨a, vs, h1, e _ _ h2, h3.imp fun _ _ _ _ r => tup_mono _ _ _ _ e r⟩
/-- a tuple's texts, as G tells them -/
def txOf (G : Hp) (v : V) : List Str := match v with
  | .ref a => (match G a with
    | some (.tup xs) => xs.map fun x => (match x with | .str s => s | _ => "")
    | _ => [])
  | _ => []
theorem txOf_eq {G : Hp} {v : V} {xs : List Str} (h : TupA v xs G) : txOf G v = xs := by
  obtain ⟨a, rfl, e⟩ := h
  unfold txOf
  dsimp only
  rw [e]
  dsimp only
  rw [List.map_map]
  exact List.map_id'' (fun _ => rfl) xs
theorem all2_map1 {α β : Type} {R : α → β → Prop} {l : List α} {m : List β} {f : α → β} (h : All2 R l m) (e : ∀ a b, R a b → f a = b) : m = l.map f := by
  induction h with
  | nil => rfl
  | cons r _ ih => rw [List.map_cons, e _ _ r, ← ih]
theorem all2_perm {α β : Type} {R : α → β → Prop} {l : List α} {f : α → β} (h : ∀ a ∈ l, R a (f a)) : All2 R l (l.map f) := by
  induction l with
  | nil => exact .nil
  | cons a l ih => exact .cons (h a List.mem_cons_self) (ih fun x hx => h x (List.mem_cons_of_mem _ hx))
section
variable {K : PySem.W.Frag} {σ : L2.St} {G : Hp} {te : TE} {Φ : V → Hp → Prop}
/-- sorted(xs) -/
theorem ge_sortedU (h : Ge te σ G fun v G' => ∃ l, TusV v l G' ∧ (∀ x ∈ l, x ≠ []) ∧ ∀ v2 G2, Same G' G2 → TusV v2 (sortP l) G2 → Φ v2 G2) : Ge (tCB (rSortedU K) (tCons te tNil)) σ G Φ := fun H s c Q q =>
  h H s c _ fun v G1 H1 s1 f => by
    obtain ⟨l, ⟨p, vs, rfl, hp, al⟩, hne, k⟩ := f
    have hl : l = vs.map (txOf G1) := all2_map1 al fun a b r => txOf_eq r
    refine ⟨p, vs, txOf G1, rfl, SqL.of (s1.sub.lst hp), fun v hv => ?_, fun L' p2 pm pw hp2 => ?_⟩
    · obtain ⟨x, hx, r⟩ := al.mem1 hv
      have e := txOf_eq r
      obtain ⟨t, rfl, ht⟩ := r
      exact ⟨t, rfl, by rw [e]; exact s1.sub.tup ht, by rw [e]; exact hne x hx⟩
    · have hnew := s1.sub.non hp2
      refine q (.ref p2) (upd G1 p2 (.lst L')) _ (s1.lay hp2) (k _ _ (Same.put hnew) ⟨p2, L', rfl, upd_same, ?_⟩)
      have e : sortP l = L'.map (txOf G1) := by
        rw [hl]
        exact (sortP_eq (pm.map _) (List.pairwise_map.mpr (pw.imp fun h => by unfold leP; rw [h]; rfl))).symm
      rw [e]
      refine all2_perm fun v hv => ?_
      obtain ⟨x, hx, r⟩ := al.mem1 (pm.mem_iff.mp hv)
      rw [txOf_eq r]
      exact tup_mono _ _ _ _ (Same.put hnew) r
end
end K25

/-! K16 -/
/-! K16 (printed by mkK16.py): list comprehensions of three clauses; lines of the rule for two, turned to three. -/
namespace L2
open PySem PySem.Spec PyProof.Rows

theorem compTurn3_0 (elt t0 i0 t1 i1 t2 i2 : Expr) (ifs0 ifs1 ifs2 : List Expr) (scope : Scope) (pos : Pos) (it acc : Value) (env : Env) :
    compTurn (.ListComp elt [⟨t0, i0, ifs0, 0⟩, ⟨t1, i1, ifs1, 0⟩, ⟨t2, i2, ifs2, 0⟩] scope pos) 0 it acc env = (do
      standAt i0.pos
      match ← pyNext it with
      | none => pure (.done .next)
      | some v =>
        letOwnedTupleGo t0 it v
        assign t0 env v
        let mut ok := true
        for c in ifs0 do
          if ok then ok ← isTrue c env (eval c env)
        if ok then
          let x ← eval i1 env
          standAt i1.pos
          let x ← foldedSetIterable i1 env x
          let _ ← runOwn (.compStart (.ListComp elt [⟨t0, i0, ifs0, 0⟩, ⟨t1, i1, ifs1, 0⟩, ⟨t2, i2, ifs2, 0⟩] scope pos) 1 (← holding [x] (pyIter x)) acc env) env
        again (.compLoop (.ListComp elt [⟨t0, i0, ifs0, 0⟩, ⟨t1, i1, ifs1, 0⟩, ⟨t2, i2, ifs2, 0⟩] scope pos) 0 it acc env)) := by rfl
theorem compTurn3_1 (elt t0 i0 t1 i1 t2 i2 : Expr) (ifs0 ifs1 ifs2 : List Expr) (scope : Scope) (pos : Pos) (it acc : Value) (env : Env) :
    compTurn (.ListComp elt [⟨t0, i0, ifs0, 0⟩, ⟨t1, i1, ifs1, 0⟩, ⟨t2, i2, ifs2, 0⟩] scope pos) 1 it acc env = (do
      standAt i1.pos
      match ← pyNext it with
      | none => pure (.done .next)
      | some v =>
        letOwnedTupleGo t1 it v
        assign t1 env v
        let mut ok := true
        for c in ifs1 do
          if ok then ok ← isTrue c env (eval c env)
        if ok then
          let x ← eval i2 env
          standAt i2.pos
          let x ← foldedSetIterable i2 env x
          let _ ← runOwn (.compStart (.ListComp elt [⟨t0, i0, ifs0, 0⟩, ⟨t1, i1, ifs1, 0⟩, ⟨t2, i2, ifs2, 0⟩] scope pos) 2 (← holding [x] (pyIter x)) acc env) env
        again (.compLoop (.ListComp elt [⟨t0, i0, ifs0, 0⟩, ⟨t1, i1, ifs1, 0⟩, ⟨t2, i2, ifs2, 0⟩] scope pos) 1 it acc env)) := by rfl
theorem compTurn3_2 (elt t0 i0 t1 i1 t2 i2 : Expr) (ifs0 ifs1 ifs2 : List Expr) (scope : Scope) (pos : Pos) (it acc : Value) (env : Env) :
    compTurn (.ListComp elt [⟨t0, i0, ifs0, 0⟩, ⟨t1, i1, ifs1, 0⟩, ⟨t2, i2, ifs2, 0⟩] scope pos) 2 it acc env = (do
      standAt i2.pos
      match ← pyNext it with
      | none => pure (.done .next)
      | some v =>
        letOwnedTupleGo t2 it v
        assign t2 env v
        let mut ok := true
        for c in ifs2 do
          if ok then ok ← isTrue c env (eval c env)
        if ok then
          (do let _ ← call (.builtin "list.append") [acc, ← eval elt env])
        again (.compLoop (.ListComp elt [⟨t0, i0, ifs0, 0⟩, ⟨t1, i1, ifs1, 0⟩, ⟨t2, i2, ifs2, 0⟩] scope pos) 2 it acc env)) := by rfl
section
variable {prog : Program} {w : World} {A : Around} {R : Result → Shared → Prop} {s : Shared} {elt t0 i0 t1 i1 t2 i2 : Expr} {ifs0 ifs1 ifs2 : List Expr} {scope : Scope} {pos : Pos} {it acc : Value} {env : Env}
theorem compLoop3_0 (hs : ∀ x, foldedSetIterable i1 env x = pure x) (I : Nat → Shared → Prop)
    (turn : ∀ n s, I n s → wpAny (model prog w) A (pyNext it) (fun r s₁ => match r with
      | none => R (.ok .next) s₁
      | some v => wpAny (model prog w) A (letOwnedTupleGo t0 it v) (fun _ s₁' => wpAny (model prog w) A (assign t0 env v) (fun _ s₂ =>
          wpAny (model prog w) A (forIn ifs0 true fun c r => if r = true then do let ok ← isTrue c env (eval c env); pure (ForInStep.yield ok) else pure (ForInStep.yield r)) (fun ok s₃ =>
            if ok = true then wpAny (model prog w) A (eval i1 env) (fun x s₄ => wpAny (model prog w) A (pyIter x) (fun it1 s₅ =>
              codeAny (model prog w) A (.compStart (.ListComp elt [⟨t0, i0, ifs0, 0⟩, ⟨t1, i1, ifs1, 0⟩, ⟨t2, i2, ifs2, 0⟩] scope pos) 1 it1 acc env) (fun r s' => match r with
                | .ok _ => ∃ m, m < n ∧ I m s'
                | .error _ => False) s₅) (notedBy (model prog w) A env fun e s' => R (.error e) s') s₄) (notedBy (model prog w) A env fun e s' => R (.error e) s') s₃
            else ∃ m, m < n ∧ I m s₃) (notedBy (model prog w) A env fun e s' => R (.error e) s') s₂) (notedBy (model prog w) A env fun e s' => R (.error e) s') s₁') (notedBy (model prog w) A env fun e s' => R (.error e) s') s₁) (notedBy (model prog w) A env fun e s' => R (.error e) s') s)
    (n : Nat) (h : I n s) :
    codeAny (model prog w) A (.compLoop (.ListComp elt [⟨t0, i0, ifs0, 0⟩, ⟨t1, i1, ifs1, 0⟩, ⟨t2, i2, ifs2, 0⟩] scope pos) 0 it acc env) R s := by
  refine codeAny_loop rfl I (fun n s hI => ?_) n h
  show wpAny _ A ((compTurn (.ListComp elt [⟨t0, i0, ifs0, 0⟩, ⟨t1, i1, ifs1, 0⟩, ⟨t2, i2, ifs2, 0⟩] scope pos) 0 it acc env).onRaise (fun x => do noteFrame x env; theTreesLotGoes x)) _ _ s
  refine wpAny_noted ?_
  rw [compTurn3_0]
  refine wpAny_bind (wpAny_standAt (wpAny_bind (wpAny_mono (turn n s hI) (fun r s₁ h₁ => ?_) fun _ _ h' => h')))
  cases r with
  | none => exact wpAny_pure h₁
  | some v =>
    refine wpAny_bind (wpAny_mono h₁ (fun _ s₁' h₁' => ?_) fun _ _ h' => h')
    refine wpAny_bind (wpAny_mono h₁' (fun _ s₂ h₂ => wpAny_bind (wpAny_mono h₂ (fun ok s₃ h₃ => ?_) fun _ _ h' => h')) fun _ _ h' => h')
    cases ok with
    | false => exact wpAny_pure ⟨rfl, h₃⟩
    | true =>
      refine wpAny_bind (wpAny_mono h₃ (fun x s₄ h₄ => ?_) fun _ _ h' => h')
      refine wpAny_bind (wpAny_standAt (wpAny_bind (wpAny_of_eq (hs x) (wpAny_bind (wpAny_holding (wpAny_mono h₄ (fun it1 s₅ h₅ => ?_) fun _ _ h' => h'))))))
      refine wpAny_bind (wpAny_runOwn ?_)
      rw [Around.mark_none]
      refine codeAny_mono h₅ fun r s' hr => ?_
      cases r with
      | ok f =>
        first
          | exact wpAny_pure ⟨rfl, hr⟩
          | exact wpAny_bind (wpAny_pure (wpAny_pure ⟨rfl, hr⟩))
      | error e => exact hr.elim
theorem compLoop3_1 (hs : ∀ x, foldedSetIterable i2 env x = pure x) (I : Nat → Shared → Prop)
    (turn : ∀ n s, I n s → wpAny (model prog w) A (pyNext it) (fun r s₁ => match r with
      | none => R (.ok .next) s₁
      | some v => wpAny (model prog w) A (letOwnedTupleGo t1 it v) (fun _ s₁' => wpAny (model prog w) A (assign t1 env v) (fun _ s₂ =>
          wpAny (model prog w) A (forIn ifs1 true fun c r => if r = true then do let ok ← isTrue c env (eval c env); pure (ForInStep.yield ok) else pure (ForInStep.yield r)) (fun ok s₃ =>
            if ok = true then wpAny (model prog w) A (eval i2 env) (fun x s₄ => wpAny (model prog w) A (pyIter x) (fun it1 s₅ =>
              codeAny (model prog w) A (.compStart (.ListComp elt [⟨t0, i0, ifs0, 0⟩, ⟨t1, i1, ifs1, 0⟩, ⟨t2, i2, ifs2, 0⟩] scope pos) 2 it1 acc env) (fun r s' => match r with
                | .ok _ => ∃ m, m < n ∧ I m s'
                | .error _ => False) s₅) (notedBy (model prog w) A env fun e s' => R (.error e) s') s₄) (notedBy (model prog w) A env fun e s' => R (.error e) s') s₃
            else ∃ m, m < n ∧ I m s₃) (notedBy (model prog w) A env fun e s' => R (.error e) s') s₂) (notedBy (model prog w) A env fun e s' => R (.error e) s') s₁') (notedBy (model prog w) A env fun e s' => R (.error e) s') s₁) (notedBy (model prog w) A env fun e s' => R (.error e) s') s)
    (n : Nat) (h : I n s) :
    codeAny (model prog w) A (.compLoop (.ListComp elt [⟨t0, i0, ifs0, 0⟩, ⟨t1, i1, ifs1, 0⟩, ⟨t2, i2, ifs2, 0⟩] scope pos) 1 it acc env) R s := by
  refine codeAny_loop rfl I (fun n s hI => ?_) n h
  show wpAny _ A ((compTurn (.ListComp elt [⟨t0, i0, ifs0, 0⟩, ⟨t1, i1, ifs1, 0⟩, ⟨t2, i2, ifs2, 0⟩] scope pos) 1 it acc env).onRaise (fun x => do noteFrame x env; theTreesLotGoes x)) _ _ s
  refine wpAny_noted ?_
  rw [compTurn3_1]
  refine wpAny_bind (wpAny_standAt (wpAny_bind (wpAny_mono (turn n s hI) (fun r s₁ h₁ => ?_) fun _ _ h' => h')))
  cases r with
  | none => exact wpAny_pure h₁
  | some v =>
    refine wpAny_bind (wpAny_mono h₁ (fun _ s₁' h₁' => ?_) fun _ _ h' => h')
    refine wpAny_bind (wpAny_mono h₁' (fun _ s₂ h₂ => wpAny_bind (wpAny_mono h₂ (fun ok s₃ h₃ => ?_) fun _ _ h' => h')) fun _ _ h' => h')
    cases ok with
    | false => exact wpAny_pure ⟨rfl, h₃⟩
    | true =>
      refine wpAny_bind (wpAny_mono h₃ (fun x s₄ h₄ => ?_) fun _ _ h' => h')
      refine wpAny_bind (wpAny_standAt (wpAny_bind (wpAny_of_eq (hs x) (wpAny_bind (wpAny_holding (wpAny_mono h₄ (fun it1 s₅ h₅ => ?_) fun _ _ h' => h'))))))
      refine wpAny_bind (wpAny_runOwn ?_)
      rw [Around.mark_none]
      refine codeAny_mono h₅ fun r s' hr => ?_
      cases r with
      | ok f =>
        first
          | exact wpAny_pure ⟨rfl, hr⟩
          | exact wpAny_bind (wpAny_pure (wpAny_pure ⟨rfl, hr⟩))
      | error e => exact hr.elim
theorem compLoop3_2 (I : Nat → Shared → Prop)
    (turn : ∀ n s, I n s → wpAny (model prog w) A (pyNext it) (fun r s₁ => match r with
      | none => R (.ok .next) s₁
      | some v => wpAny (model prog w) A (letOwnedTupleGo t2 it v) (fun _ s₁' => wpAny (model prog w) A (assign t2 env v) (fun _ s₂ =>
          wpAny (model prog w) A (forIn ifs2 true fun c r => if r = true then do let ok ← isTrue c env (eval c env); pure (ForInStep.yield ok) else pure (ForInStep.yield r)) (fun ok s₃ =>
            if ok = true then wpAny (model prog w) A (eval elt env) (fun x s₄ =>
              wpAny (model prog w) A (call (.builtin "list.append") [acc, x]) (fun _ s₅ => ∃ m, m < n ∧ I m s₅) (notedBy (model prog w) A env fun e s' => R (.error e) s') s₄) (notedBy (model prog w) A env fun e s' => R (.error e) s') s₃
            else ∃ m, m < n ∧ I m s₃) (notedBy (model prog w) A env fun e s' => R (.error e) s') s₂) (notedBy (model prog w) A env fun e s' => R (.error e) s') s₁') (notedBy (model prog w) A env fun e s' => R (.error e) s') s₁) (notedBy (model prog w) A env fun e s' => R (.error e) s') s)
    (n : Nat) (h : I n s) :
    codeAny (model prog w) A (.compLoop (.ListComp elt [⟨t0, i0, ifs0, 0⟩, ⟨t1, i1, ifs1, 0⟩, ⟨t2, i2, ifs2, 0⟩] scope pos) 2 it acc env) R s := by
  refine codeAny_loop rfl I (fun n s hI => ?_) n h
  show wpAny _ A ((compTurn (.ListComp elt [⟨t0, i0, ifs0, 0⟩, ⟨t1, i1, ifs1, 0⟩, ⟨t2, i2, ifs2, 0⟩] scope pos) 2 it acc env).onRaise (fun x => do noteFrame x env; theTreesLotGoes x)) _ _ s
  refine wpAny_noted ?_
  rw [compTurn3_2]
  refine wpAny_bind (wpAny_standAt (wpAny_bind (wpAny_mono (turn n s hI) (fun r s₁ h₁ => ?_) fun _ _ h' => h')))
  cases r with
  | none => exact wpAny_pure h₁
  | some v =>
    refine wpAny_bind (wpAny_mono h₁ (fun _ s₁' h₁' => ?_) fun _ _ h' => h')
    refine wpAny_bind (wpAny_mono h₁' (fun _ s₂ h₂ => wpAny_bind (wpAny_mono h₂ (fun ok s₃ h₃ => ?_) fun _ _ h' => h')) fun _ _ h' => h')
    cases ok with
    | false => exact wpAny_pure ⟨rfl, h₃⟩
    | true =>
      exact wpAny_bind (wpAny_bind (wpAny_mono h₃ (fun x s₄ h₄ => wpAny_bind (wpAny_mono h₄ (fun _ s₅ h₅ => wpAny_pure (wpAny_pure ⟨rfl, h₅⟩)) fun _ _ h' => h')) fun _ _ h' => h'))
theorem compStart3_1 (h0 : codeAny (model prog w) A (.compLoop (.ListComp elt [⟨t0, i0, ifs0, 0⟩, ⟨t1, i1, ifs1, 0⟩, ⟨t2, i2, ifs2, 0⟩] scope pos) 1 it acc env) R s)
    (h : wpAny (model prog w) A (pyIter it) (fun it' s' => codeAny (model prog w) A (.compLoop (.ListComp elt [⟨t0, i0, ifs0, 0⟩, ⟨t1, i1, ifs1, 0⟩, ⟨t2, i2, ifs2, 0⟩] scope pos) 1 it' acc env) R s')
      (notedBy (model prog w) A env fun x s' => R (.error x) s') s) :
    codeAny (model prog w) A (.compStart (.ListComp elt [⟨t0, i0, ifs0, 0⟩, ⟨t1, i1, ifs1, 0⟩, ⟨t2, i2, ifs2, 0⟩] scope pos) 1 it acc env) R s := by
  refine codeAny_of_tree ?_
  show wpAny _ _ ((compStart (.ListComp elt [⟨t0, i0, ifs0, 0⟩, ⟨t1, i1, ifs1, 0⟩, ⟨t2, i2, ifs2, 0⟩] scope pos) 1 it acc env).onRaise (fun x => do noteFrame x env; standAt theWindowsPlace)) _ _ s
  refine wpAny_notedAt ?_
  unfold compStart
  show wpAny _ _ (ask >>= _) _ _ s
  refine wpAny_bind (wpAny_askSetting (wpAny_ite ?_))
  split
  · first
      | exact wpAny_bind (wpAny_pure (wpAny_pure (And.intro rfl h0)))
      | exact wpAny_pure (And.intro rfl h0)
  · first
      | exact wpAny_bind (wpAny_rule (wpAny_bind (wpAny_standAt (wpAny_bind (wpAny_mono h (fun it' s' h' => wpAny_pure (And.intro rfl h')) fun _ _ x => x)))))
      | (refine wpAny_bind (wpAny_rule ?_); show wpAny _ _ (standAt i1.pos >>= _) _ _ s; exact wpAny_bind (wpAny_standAt (wpAny_bind (wpAny_mono h (fun it' s' h' => wpAny_pure (And.intro rfl h')) fun _ _ x => x))))
theorem compStart3_2 (h0 : codeAny (model prog w) A (.compLoop (.ListComp elt [⟨t0, i0, ifs0, 0⟩, ⟨t1, i1, ifs1, 0⟩, ⟨t2, i2, ifs2, 0⟩] scope pos) 2 it acc env) R s)
    (h : wpAny (model prog w) A (pyIter it) (fun it' s' => codeAny (model prog w) A (.compLoop (.ListComp elt [⟨t0, i0, ifs0, 0⟩, ⟨t1, i1, ifs1, 0⟩, ⟨t2, i2, ifs2, 0⟩] scope pos) 2 it' acc env) R s')
      (notedBy (model prog w) A env fun x s' => R (.error x) s') s) :
    codeAny (model prog w) A (.compStart (.ListComp elt [⟨t0, i0, ifs0, 0⟩, ⟨t1, i1, ifs1, 0⟩, ⟨t2, i2, ifs2, 0⟩] scope pos) 2 it acc env) R s := by
  refine codeAny_of_tree ?_
  show wpAny _ _ ((compStart (.ListComp elt [⟨t0, i0, ifs0, 0⟩, ⟨t1, i1, ifs1, 0⟩, ⟨t2, i2, ifs2, 0⟩] scope pos) 2 it acc env).onRaise (fun x => do noteFrame x env; standAt theWindowsPlace)) _ _ s
  refine wpAny_notedAt ?_
  unfold compStart
  show wpAny _ _ (ask >>= _) _ _ s
  refine wpAny_bind (wpAny_askSetting (wpAny_ite ?_))
  split
  · first
      | exact wpAny_bind (wpAny_pure (wpAny_pure (And.intro rfl h0)))
      | exact wpAny_pure (And.intro rfl h0)
  · first
      | exact wpAny_bind (wpAny_rule (wpAny_bind (wpAny_standAt (wpAny_bind (wpAny_mono h (fun it' s' h' => wpAny_pure (And.intro rfl h')) fun _ _ x => x)))))
      | (refine wpAny_bind (wpAny_rule ?_); show wpAny _ _ (standAt i2.pos >>= _) _ _ s; exact wpAny_bind (wpAny_standAt (wpAny_bind (wpAny_mono h (fun it' s' h' => wpAny_pure (And.intro rfl h')) fun _ _ x => x))))
end
section
variable {X : Cx}
/-- [elt for tg in iter .. for tg1 in iter1 .. for tg2 in iter2 ..]; vs1: the names of the second and the third target, vs2: those of the third -/
def tLc3 (wi : TI) (g : TG) (tt : TT) (wi1 : TI) (g1 : TG) (tt1 : TT) (wi2 : TI) (g2 : TG) (tt2 : TT) (te : TE) (vs vs1 vs2 : List Nat) : TE := fun σ H Q => wi σ H fun J H1 => ∀ D, H1 D = none → ∃ W : Nat → Nat → Hp → Prop, (∃ m, W 0 m (upd H1 D (.lst []))) ∧ ∀ i m H, W i m H →
  (J.stop i H ∧ Q (.ref D) H) ∨ (J.go i H ∧ ∃ Nx : Hp → Prop, (∀ H', Nx H' → ∃ m', m' < m ∧ W (i + 1) m' H') ∧ ∀ x H', J.yld i H x H' → g x (wipe σ vs) H' fun σ2 H2 => wipe σ2 vs = wipe σ vs ∧ tt σ2 H2 fun b H3 =>
    if b = true then wi1 σ2 H3 fun J1 H4 => ∃ W1 : Nat → Nat → Hp → Prop, (∃ m, W1 0 m H4) ∧ ∀ j k H, W1 j k H →
      (J1.stop j H ∧ Nx H) ∨ (J1.go j H ∧ ∃ Nx1 : Hp → Prop, (∀ H', Nx1 H' → ∃ k', k' < k ∧ W1 (j + 1) k' H') ∧ ∀ x H', J1.yld j H x H' → g1 x (wipe σ2 vs1) H' fun σ3 H5 => wipe σ3 vs1 = wipe σ2 vs1 ∧ tt1 σ3 H5 fun b H6 =>
        if b = true then wi2 σ3 H6 fun J2 H7 => ∃ W2 : Nat → Nat → Hp → Prop, (∃ m, W2 0 m H7) ∧ ∀ j k H, W2 j k H →
          (J2.stop j H ∧ Nx1 H) ∨ (J2.go j H ∧ ∃ Nx2 : Hp → Prop, (∀ H', Nx2 H' → ∃ k', k' < k ∧ W2 (j + 1) k' H') ∧ ∀ x H', J2.yld j H x H' → g2 x (wipe σ3 vs2) H' fun σ4 H8 => wipe σ4 vs2 = wipe σ3 vs2 ∧ tt2 σ4 H8 fun b H9 =>
            if b = true then te σ4 H9 fun y H10 => ∃ acc, H10 D = some (.lst acc) ∧ acc.length < sizeLine ∧ Nx2 (upd H10 D (.lst (acc ++ [y]))) else Nx2 H9)
        else Nx1 H6)
    else Nx H3)
theorem lc3_core {pins : List (Addr × Obj)} {s : Shared} {σ : St} {H : Hp} {Q : VK} {elt tg iter tg1 iter1 tg2 iter2 : Expr} {ifs ifs1 ifs2 : List Expr} {scope : Scope} {own : List (Str × Nat)} {vs1 vs2 : List Nat} {pos pos' : Pos} {wi wi1 wi2 : TI} {g g1 g2 : TG} {tt tt1 tt2 : TT} {te : TE} {use : Option (Value → Sem Unit)} {Qf : Value → Shared → Prop}
    (hc : X.calm = true) (hN : X.N.Nodup) (I : Inv X pins σ H s) (hi : PI X tg iter wi) (ok : BlkOk X.N X.env.scope scope own) (hv : ∀ i ∈ vs1, i ∈ own.map (·.2)) (hv2 : ∀ i ∈ vs2, i ∈ vs1)
    (hg : ∀ (s : Shared) (H : Hp) (C : Addr) (cl : List (Str × Addr)) (fp : List Addr), PG (X.blk s H scope (compEnvC scope cl C X.env) fp) tg g) (ht : ∀ (s : Shared) (H : Hp) (C : Addr) (cl : List (Str × Addr)) (fp : List Addr), PTs (X.blk s H scope (compEnvC scope cl C X.env) fp) ifs tt)
    (he : ∀ (s : Shared) (H : Hp) (C : Addr) (cl : List (Str × Addr)) (fp : List Addr), PE (X.blk s H scope (compEnvC scope cl C X.env) fp) elt te) (hs : ∀ x, foldedSetIterable iter X.env x = pure x)
    (hi1 : ∀ (s : Shared) (H : Hp) (C : Addr) (cl : List (Str × Addr)) (fp : List Addr), PI (X.blk s H scope (compEnvC scope cl C X.env) fp) tg1 iter1 wi1) (hg1 : ∀ (s : Shared) (H : Hp) (C : Addr) (cl : List (Str × Addr)) (fp : List Addr), PG (X.blk s H scope (compEnvC scope cl C X.env) fp) tg1 g1) (ht1 : ∀ (s : Shared) (H : Hp) (C : Addr) (cl : List (Str × Addr)) (fp : List Addr), PTs (X.blk s H scope (compEnvC scope cl C X.env) fp) ifs1 tt1)
    (hi2 : ∀ (s : Shared) (H : Hp) (C : Addr) (cl : List (Str × Addr)) (fp : List Addr), PI (X.blk s H scope (compEnvC scope cl C X.env) fp) tg2 iter2 wi2) (hg2 : ∀ (s : Shared) (H : Hp) (C : Addr) (cl : List (Str × Addr)) (fp : List Addr), PG (X.blk s H scope (compEnvC scope cl C X.env) fp) tg2 g2) (ht2 : ∀ (s : Shared) (H : Hp) (C : Addr) (cl : List (Str × Addr)) (fp : List Addr), PTs (X.blk s H scope (compEnvC scope cl C X.env) fp) ifs2 tt2)
    (hs1 : ∀ env x, foldedSetIterable iter1 env x = pure x) (hs2 : ∀ env x, foldedSetIterable iter2 env x = pure x)
    (h : tLc3 wi g tt wi1 g1 tt1 wi2 g2 tt2 te (own.map (·.2)) vs1 vs2 σ H Q)
    (hRR : ∀ D C s' m H', Inv X pins σ H' s' → Q (.ref D) H' → s'.heap.Ns C m → FpOk X pins H' C → compPost (model X.prog X.w) X.A X.xe use Qf (.ref D) C (.ok .next) s') :
    wpAny (model X.prog X.w) X.A (comprehension (.ListComp elt [⟨tg, iter, ifs, 0⟩, ⟨tg1, iter1, ifs1, 0⟩, ⟨tg2, iter2, ifs2, 0⟩] scope pos) scope X.env pos' (newList []) false (eval iter X.env) use) Qf X.xe s := by
  have hfree : ∀ y ∈ scope.names, y.2 = .free → ∃ c, X.env.cells.lookup y.1 = some c := fun y hy e => by
    rcases ok.free y hy e with k | k
    · exact I.ok.has _ (.inl k)
    · exact I.ok.has _ (.inr k)
  refine wpAny_comprehension_free (use := use) rfl hs (closure_ok hfree) ok.kind (fun y hy e => by rw [ok.uniq y hy, e])
    (thn (hi.run pins s σ H _ I h) fun xv s1 hx => thn hx fun itv s2 h2 => ?_)
  obtain ⟨it, fp, tn, J, H2, e, I2, T, st2, f2, q⟩ := h2
  subst e
  refine wpAny_newObj_type (newEnv_comp ?_) (by show 0 ≤ sizeLine; decide)
  generalize hD : s2.heap.objs.size = D
  have hDn : H2 D = none := I2.hok.fresh (Nat.le_of_eq hD)
  obtain ⟨W, ⟨m0, w0⟩, turn⟩ := q D hDn
  -- the new list
  generalize hs3 : ({ s2 with heap := s2.heap.push { cls := .type "list", data := .seq ([] : List Value).toArray } } : Shared) = s3
  have I3 : Inv X pins σ (upd H2 D (.lst [])) s3 := by
    rw [← hs3]
    refine I2.laid (t' := s2.toks) (fun b o e => Heap.get?_push_of_some _ e) (Nat.le_of_eq hD) ⟨Nat.zero_le _, [], 0, .nil, ?_⟩
    rw [← hD]
    exact Heap.get?_push_size _ rfl
  have h3 : s3.heap = s2.heap.push { cls := .type "list", data := .seq ([] : List Value).toArray } := by rw [← hs3]
  have sz : ∀ b ∈ fp, b < s2.heap.objs.size := fun b hb => by
    obtain ⟨o, e, _⟩ := T.obj _ _ st2 b hb
    exact Heap.lt_size e
  have f3 : ∀ b ∈ fp, FpOk X pins (upd H2 D (.lst [])) b ∧ b < s3.heap.objs.size := fun b hb => by
    have hlt := sz b hb
    refine ⟨⟨?_, (f2 b hb).2⟩, by rw [h3, Heap.size_push]; exact Nat.lt_succ_of_lt hlt⟩
    rw [upd_ne (by rw [← hD]; exact Nat.ne_of_lt hlt)]
    exact (f2 b hb).1
  have st3 : tn 0 s3.heap := T.keep _ _ _ st2 fun b _ o e => by rw [h3]; exact Heap.get?_push_of_some _ e
  have I4 := block_start I3 ok hN f3
  have pg := hg s3 (upd H2 D (.lst [])) s3.heap.objs.size (cellsFrom (s3.heap.objs.size + 1) scope.names (cloFrom X.env.cells scope.names [])) fp
  have pt := ht s3 (upd H2 D (.lst [])) s3.heap.objs.size (cellsFrom (s3.heap.objs.size + 1) scope.names (cloFrom X.env.cells scope.names [])) fp
  have pe := he s3 (upd H2 D (.lst [])) s3.heap.objs.size (cellsFrom (s3.heap.objs.size + 1) scope.names (cloFrom X.env.cells scope.names [])) fp
  have pi1 := hi1 s3 (upd H2 D (.lst [])) s3.heap.objs.size (cellsFrom (s3.heap.objs.size + 1) scope.names (cloFrom X.env.cells scope.names [])) fp
  have pg1 := hg1 s3 (upd H2 D (.lst [])) s3.heap.objs.size (cellsFrom (s3.heap.objs.size + 1) scope.names (cloFrom X.env.cells scope.names [])) fp
  have pt1 := ht1 s3 (upd H2 D (.lst [])) s3.heap.objs.size (cellsFrom (s3.heap.objs.size + 1) scope.names (cloFrom X.env.cells scope.names [])) fp
  have pi2 := hi2 s3 (upd H2 D (.lst [])) s3.heap.objs.size (cellsFrom (s3.heap.objs.size + 1) scope.names (cloFrom X.env.cells scope.names [])) fp
  have pg2 := hg2 s3 (upd H2 D (.lst [])) s3.heap.objs.size (cellsFrom (s3.heap.objs.size + 1) scope.names (cloFrom X.env.cells scope.names [])) fp
  have pt2 := ht2 s3 (upd H2 D (.lst [])) s3.heap.objs.size (cellsFrom (s3.heap.objs.size + 1) scope.names (cloFrom X.env.cells scope.names [])) fp
  show codeAny _ _ (.compStart (.ListComp elt [⟨tg, iter, ifs, 0⟩, ⟨tg1, iter1, ifs1, 0⟩, ⟨tg2, iter2, ifs2, 0⟩] scope pos) 0 (.ref it) (.ref D) (compEnvC scope (cellsFrom (s3.heap.objs.size + 1) scope.names (cloFrom X.env.cells scope.names [])) s3.heap.objs.size X.env)) (compPost (model X.prog X.w) X.A X.xe use Qf (.ref D) s3.heap.objs.size) { s3 with heap := pushCells (s3.heap.push { cls := .type "dict", data := .dict #[] }) scope.names }
  have nfp : ∀ b ∈ fp, (upd H2 D (.lst [])) b = none := fun b hb => (f3 b hb).1.1
  generalize hce : compEnvC scope (cellsFrom (s3.heap.objs.size + 1) scope.names (cloFrom X.env.cells scope.names [])) s3.heap.objs.size X.env = ce at I4 pg pt pe pi1 pg1 pt1 pi2 pg2 pt2 ⊢
  have cL : ce.locals = s3.heap.objs.size := by subst hce; rfl
  generalize hH3 : upd H2 D (.lst []) = H3 at I3 I4 pg pt pe pi1 pg1 pt1 pi2 pg2 pt2 w0 nfp f3
  generalize hs4 : ({ s3 with heap := pushCells (s3.heap.push { cls := .type "dict", data := .dict #[] }) scope.names } : Shared) = s4 at I4 ⊢
  have st4 : tn 0 s4.heap := T.keep _ _ _ st3 fun b _ o e => by rw [← hs4]; exact pushCells_keeps _ _ _ _ (Heap.get?_push_of_some _ e)
  have stat : ∀ {σ' : St} {H' : Hp} {s' : Shared}, Inv (X.blk s3 H3 scope ce fp) [] σ' H' s' → (∀ b ∈ fp, H' b = none) → ∀ b ∈ fp, FpOk (X.blk s3 H3 scope ce fp) [] H' b := fun {σ' H' s'} I' hn b hb =>
    ⟨hn b hb, (I'.ok.exf b hb).1, I'.ok.exfs b hb, .inl hb, fun x c e => (I'.ok.exf b hb).2 x c e, fun p hp => absurd (show p ∈ ([] : List (Addr × Obj)) ++ [] from hp) (by simp)⟩
  have loop : codeAny (model X.prog X.w) X.A (.compLoop (.ListComp elt [⟨tg, iter, ifs, 0⟩, ⟨tg1, iter1, ifs1, 0⟩, ⟨tg2, iter2, ifs2, 0⟩] scope pos) 0 (.ref it) (.ref D) ce) (compPost (model X.prog X.w) X.A X.xe use Qf (.ref D) s3.heap.objs.size) s4 := by
    refine compLoop3_0 (hs1 ce) (fun n s' => ∃ i H', Inv (X.blk s3 H3 scope ce fp) [] (wipe σ (own.map (·.2))) H' s' ∧ tn i s'.heap ∧ (∀ b ∈ fp, H' b = none) ∧ W i n H') ?_ m0 ⟨0, H3, I4, st4, nfp, w0⟩
    rintro n s5 ⟨i, H5, I5, st5, n5, w5⟩
    rcases turn i n H5 w5 with ⟨stop, qq⟩ | ⟨go, Nx, hNx, step⟩
    · have td := T.done (X.blk s3 H3 scope ce fp) rfl rfl rfl hc i [] s5 _ H5 (fun _ _ => False) I5 (stat I5 n5) st5 stop
      refine thnF td fun r s6 ⟨hr, I6⟩ => ?_
      subst hr
      -- back in the def's context
      have I7 : Inv X pins σ H5 s6 := I3.call' (ch := fp) I6.os I6.base I6.hok I6.bare fun b hb => ⟨(f3 b hb).1.2.2.2.1, (f3 b hb).1.2.1, (f3 b hb).1.2.2.2.2.1, (f3 b hb).1.2.2.2.2.2⟩
      have nC : H5 s3.heap.objs.size = none := by
        have z : H5 ce.locals = none := I6.free
        rw [cL] at z
        exact z
      obtain ⟨m, hn, _⟩ := I6.loc
      have hn : s6.heap.Ns ce.locals m := hn
      rw [cL] at hn
      exact hRR D s3.heap.objs.size s6 m H5 I7 qq hn (I3.fpOk (Nat.le_refl _) nC)
    · have ti := T.item (X.blk s3 H3 scope ce fp) rfl rfl rfl hc i [] s5 _ H5 (fun _ _ => False) I5 (stat I5 n5) st5 go
      refine thnF ti fun r s6 ⟨u, hr, h6⟩ => ?_
      subst hr
      refine thnF h6 fun _ s7 ⟨x, H7, I7, r7, y7, st7, n7⟩ => ?_
      have I7' := I7.pinned (stat I7 n7) (T.obj _ _ st7)
      refine thnF (pg.run _ s7 _ H7 x u _ I7' r7 (step x H7 y7)) fun _ s8 ⟨σ8, H8, I8, hw8, q8⟩ => ?_
      refine thnF (pt.run _ s8 σ8 H8 _ I8 q8) fun b s9 ⟨H9, I9, q9⟩ => ?_
      -- the turn's end, from any slots that know what the block knew at its start
      have fin : ∀ {σ9 : St} {s' : Shared} {H' : Hp}, Inv (X.blk s3 H3 scope ce fp) ([] ++ pinsAt fp s7.heap) σ9 H' s' → (wipe σ (own.map (·.2))).length = σ9.length → (∀ (j : Nat) v, (wipe σ (own.map (·.2)))[j]? = some (some v) → σ9[j]? = some (some v)) → Nx H' →
          ∃ m, m < n ∧ ∃ i H', Inv (X.blk s3 H3 scope ce fp) [] (wipe σ (own.map (·.2))) H' s' ∧ tn i s'.heap ∧ (∀ b ∈ fp, H' b = none) ∧ W i m H' := fun {σ9 s' H'} I' hl hk nx => by
        obtain ⟨m', hm, w'⟩ := hNx H' nx
        have pin' : ∀ b ∈ fp, ∀ o, s7.heap.get? b = some o → s'.heap.get? b = some o ∧ H' b = none := fun b hb o e =>
          let z := I'.pin (b, o) (List.mem_append_right _ (List.mem_append_right _ (mem_pinsAt hb e)))
          ⟨z.1, z.2.1⟩
        refine ⟨m', hm, i + 1, H', (I'.unpinned (pins := [])).weak hl hk, T.keep _ _ _ st7 fun b hb o e => (pin' b hb o e).1, fun b hb => ?_, w'⟩
        obtain ⟨o, e, _⟩ := T.obj _ _ st7 b hb
        exact (pin' b hb o e).2
      have hl8 : (wipe σ (own.map (·.2))).length = σ8.length := by rw [← hw8, wipe_length]
      have hk8 : ∀ (j : Nat) v, (wipe σ (own.map (·.2)))[j]? = some (some v) → σ8[j]? = some (some v) := fun j v e => by
        rw [← hw8] at e
        exact (wipe_some e).1
      have hk9 : ∀ (j : Nat) v, (wipe σ (own.map (·.2)))[j]? = some (some v) → (wipe σ8 vs1)[j]? = some (some v) := fun j v e => by
        rw [← hw8] at e
        obtain ⟨e1, e2⟩ := wipe_some e
        rw [wipe_out fun z => e2 (hv j z)]
        exact e1
      cases b with
      | false =>
        simp only [Bool.false_eq_true, if_false] at q9 ⊢
        exact fin I9 hl8 hk8 q9
      | true =>
        simp only [if_true] at q9 ⊢
        refine thnF (pi1.run _ s9 σ8 H9 _ I9 q9) fun xv s10 hx => thnF hx fun itv s11 h11 => ?_
        obtain ⟨it1, fp1, tn1, J1, H11, e1, I11, T1, st11, f11, W1, ⟨m1, w1⟩, turn1⟩ := h11
        subst e1
        -- the inner loop
        have stat1 : ∀ {H' : Hp}, (∀ b ∈ fp1, H' b = none) → ∀ b ∈ fp1, FpOk (X.blk s3 H3 scope ce fp) ([] ++ pinsAt fp s7.heap) H' b := fun hn b hb => ⟨hn b hb, (f11 b hb).2⟩
        have loop1 : codeAny (model X.prog X.w) X.A (.compLoop (.ListComp elt [⟨tg, iter, ifs, 0⟩, ⟨tg1, iter1, ifs1, 0⟩, ⟨tg2, iter2, ifs2, 0⟩] scope pos) 1 (.ref it1) (.ref D) ce)
            (fun r s' => match r with
              | .ok _ => ∃ m, m < n ∧ ∃ i H', Inv (X.blk s3 H3 scope ce fp) [] (wipe σ (own.map (·.2))) H' s' ∧ tn i s'.heap ∧ (∀ b ∈ fp, H' b = none) ∧ W i m H'
              | .error _ => False) s11 := by
          refine compLoop3_1 (hs2 ce) (fun k s' => ∃ j H', Inv (X.blk s3 H3 scope ce fp) ([] ++ pinsAt fp s7.heap) (wipe σ8 vs1) H' s' ∧ tn1 j s'.heap ∧ (∀ b ∈ fp1, H' b = none) ∧ W1 j k H') ?_ m1 ⟨0, H11, I11.weak (wipe_length _ _) (fun j v e => (wipe_some e).1), st11, fun b hb => (f11 b hb).1, w1⟩
          rintro k s12 ⟨j, H12, I12, st12, n12, w12⟩
          rcases turn1 j k H12 w12 with ⟨stop1, nx1⟩ | ⟨go1, Nx1, hNx1, step1⟩
          · refine thnF (T1.done (X.blk s3 H3 scope ce fp) rfl rfl rfl hc j _ s12 (wipe σ8 vs1) H12 (fun _ _ => False) I12 (stat1 n12) st12 stop1) fun r s13 ⟨hr, I13⟩ => ?_
            subst hr
            exact fin I13 (hl8.trans (wipe_length σ8 vs1).symm) hk9 nx1
          · refine thnF (T1.item (X.blk s3 H3 scope ce fp) rfl rfl rfl hc j _ s12 (wipe σ8 vs1) H12 (fun _ _ => False) I12 (stat1 n12) st12 go1) fun r s13 ⟨u1, hr, h13⟩ => ?_
            subst hr
            refine thnF h13 fun _ s14 ⟨x1, H14, I14, r14, y14, st14, n14⟩ => ?_
            have I14' := I14.pinned (stat1 n14) (T1.obj _ _ st14)
            refine thnF (pg1.run _ s14 (wipe σ8 vs1) H14 x1 u1 _ I14' r14 (step1 x1 H14 y14)) fun _ s15 ⟨σ15, H15, I15, hw15, q15⟩ => ?_
            refine thnF (pt1.run _ s15 σ15 H15 _ I15 q15) fun b1 s16 ⟨H16, I16, q16⟩ => ?_
            have fin1 : ∀ {σ9 : St} {s' : Shared} {H' : Hp}, Inv (X.blk s3 H3 scope ce fp) (([] ++ pinsAt fp s7.heap) ++ pinsAt fp1 s14.heap) σ9 H' s' → (wipe σ8 vs1).length = σ9.length → (∀ (j : Nat) v, (wipe σ8 vs1)[j]? = some (some v) → σ9[j]? = some (some v)) → Nx1 H' →
                ∃ m, m < k ∧ ∃ j H', Inv (X.blk s3 H3 scope ce fp) ([] ++ pinsAt fp s7.heap) (wipe σ8 vs1) H' s' ∧ tn1 j s'.heap ∧ (∀ b ∈ fp1, H' b = none) ∧ W1 j m H' := fun {σ9 s' H'} I' hl hk nx => by
              obtain ⟨m', hm, w'⟩ := hNx1 H' nx
              have pin' : ∀ b ∈ fp1, ∀ o, s14.heap.get? b = some o → s'.heap.get? b = some o ∧ H' b = none := fun b hb o e =>
                let z := I'.pin (b, o) (List.mem_append_right _ (List.mem_append_right _ (mem_pinsAt hb e)))
                ⟨z.1, z.2.1⟩
              refine ⟨m', hm, j + 1, H', I'.unpinned.weak hl hk, T1.keep _ _ _ st14 fun b hb o e => (pin' b hb o e).1, fun b hb => ?_, w'⟩
              obtain ⟨o, e, _⟩ := T1.obj _ _ st14 b hb
              exact (pin' b hb o e).2
            have hl15 : (wipe σ8 vs1).length = σ15.length := by rw [← hw15, wipe_length]
            have hk15 : ∀ (j : Nat) v, (wipe σ8 vs1)[j]? = some (some v) → σ15[j]? = some (some v) := fun j v e => by
              rw [← hw15] at e
              exact (wipe_some e).1
            have hk16 : ∀ (j : Nat) v, (wipe σ8 vs1)[j]? = some (some v) → (wipe σ15 vs2)[j]? = some (some v) := fun j v e => by
              rw [← hw15] at e
              obtain ⟨e1, e2⟩ := wipe_some e
              rw [wipe_out fun z => e2 (hv2 j z)]
              exact e1
            cases b1 with
            | false =>
              simp only [Bool.false_eq_true, if_false] at q16 ⊢
              exact fin1 I16 hl15 hk15 q16
            | true =>
              simp only [if_true] at q16 ⊢
              refine thnF (pi2.run _ s16 σ15 H16 _ I16 q16) fun xv s20 hx => thnF hx fun itv s21 h21 => ?_
              obtain ⟨it2, fp2, tn2, J2, H21, e2, I21, T2, st21, f21, W2, ⟨m2, w2⟩, turn2⟩ := h21
              subst e2
              have stat2 : ∀ {H' : Hp}, (∀ b ∈ fp2, H' b = none) → ∀ b ∈ fp2, FpOk (X.blk s3 H3 scope ce fp) (([] ++ pinsAt fp s7.heap) ++ pinsAt fp1 s14.heap) H' b := fun hn b hb => ⟨hn b hb, (f21 b hb).2⟩
              have loop2 : codeAny (model X.prog X.w) X.A (.compLoop (.ListComp elt [⟨tg, iter, ifs, 0⟩, ⟨tg1, iter1, ifs1, 0⟩, ⟨tg2, iter2, ifs2, 0⟩] scope pos) 2 (.ref it2) (.ref D) ce)
                  (fun r s' => match r with
                    | .ok _ => ∃ m, m < k ∧ ∃ j H', Inv (X.blk s3 H3 scope ce fp) ([] ++ pinsAt fp s7.heap) (wipe σ8 vs1) H' s' ∧ tn1 j s'.heap ∧ (∀ b ∈ fp1, H' b = none) ∧ W1 j m H'
                    | .error _ => False) s21 := by
                refine compLoop3_2 (fun k s' => ∃ j H', Inv (X.blk s3 H3 scope ce fp) (([] ++ pinsAt fp s7.heap) ++ pinsAt fp1 s14.heap) (wipe σ15 vs2) H' s' ∧ tn2 j s'.heap ∧ (∀ b ∈ fp2, H' b = none) ∧ W2 j k H') ?_ m2 ⟨0, H21, I21.weak (wipe_length _ _) (fun j v e => (wipe_some e).1), st21, fun b hb => (f21 b hb).1, w2⟩
                rintro k2 s22 ⟨j2, H22, I22, st22, n22, w22⟩
                rcases turn2 j2 k2 H22 w22 with ⟨stop2, nx2⟩ | ⟨go2, Nx2, hNx2, step2⟩
                · refine thnF (T2.done (X.blk s3 H3 scope ce fp) rfl rfl rfl hc j2 _ s22 (wipe σ15 vs2) H22 (fun _ _ => False) I22 (stat2 n22) st22 stop2) fun r s23 ⟨hr, I23⟩ => ?_
                  subst hr
                  exact fin1 I23 (hl15.trans (wipe_length σ15 vs2).symm) hk16 nx2
                · refine thnF (T2.item (X.blk s3 H3 scope ce fp) rfl rfl rfl hc j2 _ s22 (wipe σ15 vs2) H22 (fun _ _ => False) I22 (stat2 n22) st22 go2) fun r s23 ⟨u2, hr, h23⟩ => ?_
                  subst hr
                  refine thnF h23 fun _ s24 ⟨x2, H24, I24, r24, y24, st24, n24⟩ => ?_
                  have I24' := I24.pinned (stat2 n24) (T2.obj _ _ st24)
                  refine thnF (pg2.run _ s24 (wipe σ15 vs2) H24 x2 u2 _ I24' r24 (step2 x2 H24 y24)) fun _ s25 ⟨σ25, H25, I25, hw25, q25⟩ => ?_
                  refine thnF (pt2.run _ s25 σ25 H25 _ I25 q25) fun b2 s26 ⟨H26, I26, q26⟩ => ?_
                  have fin2 : ∀ {s' : Shared} {H' : Hp}, Inv (X.blk s3 H3 scope ce fp) ((([] ++ pinsAt fp s7.heap) ++ pinsAt fp1 s14.heap) ++ pinsAt fp2 s24.heap) σ25 H' s' → Nx2 H' → ∃ m, m < k2 ∧ ∃ j H', Inv (X.blk s3 H3 scope ce fp) (([] ++ pinsAt fp s7.heap) ++ pinsAt fp1 s14.heap) (wipe σ15 vs2) H' s' ∧ tn2 j s'.heap ∧ (∀ b ∈ fp2, H' b = none) ∧ W2 j m H' := fun {s' H'} I' nx => by
                    obtain ⟨m', hm, w'⟩ := hNx2 H' nx
                    have pin' : ∀ b ∈ fp2, ∀ o, s24.heap.get? b = some o → s'.heap.get? b = some o ∧ H' b = none := fun b hb o e =>
                      let z := I'.pin (b, o) (List.mem_append_right _ (List.mem_append_right _ (mem_pinsAt hb e)))
                      ⟨z.1, z.2.1⟩
                    refine ⟨m', hm, j2 + 1, H', I'.unpinned.weak (by rw [← hw25, wipe_length]) (fun j v e => by rw [← hw25] at e; exact (wipe_some e).1), T2.keep _ _ _ st24 fun b hb o e => (pin' b hb o e).1, fun b hb => ?_, w'⟩
                    obtain ⟨o, e, _⟩ := T2.obj _ _ st24 b hb
                    exact (pin' b hb o e).2
                  cases b2 with
                  | false =>
                    simp only [Bool.false_eq_true, if_false] at q26 ⊢
                    exact fin2 I26 q26
                  | true =>
                    simp only [if_true] at q26 ⊢
                    refine thnF (pe.run _ s26 σ25 H26 _ I26 q26) fun z s27 ⟨yv, H27, I27, r27, acc, hD27, hz27, nx⟩ => ?_
                    exact app_ok (X := X.blk s3 H3 scope ce fp) I27 hD27 hz27 r27 fun s28 I28 => fin2 I28 nx
              exact compStart3_2 loop2 (T2.self X.A 0 _ _ _ st21 loop2)
        exact compStart3_1 loop1 (T1.self X.A 0 _ _ _ st11 loop1)
  exact codeAny_compStart_list loop (T.self X.A 0 _ _ _ st4 loop)
theorem pe_lc3 {elt tg iter tg1 iter1 tg2 iter2 : Expr} {ifs ifs1 ifs2 : List Expr} {scope : Scope} {own : List (Str × Nat)} {vs1 vs2 : List Nat} {pos : Pos} {wi wi1 wi2 : TI} {g g1 g2 : TG} {tt tt1 tt2 : TT} {te : TE} (hc : X.calm = true) (hN : X.N.Nodup) (hi : PI X tg iter wi) (ok : BlkOk X.N X.env.scope scope own) (hv : ∀ i ∈ vs1, i ∈ own.map (·.2)) (hv2 : ∀ i ∈ vs2, i ∈ vs1)
    (hg : ∀ (s : Shared) (H : Hp) (C : Addr) (cl : List (Str × Addr)) (fp : List Addr), PG (X.blk s H scope (compEnvC scope cl C X.env) fp) tg g) (ht : ∀ (s : Shared) (H : Hp) (C : Addr) (cl : List (Str × Addr)) (fp : List Addr), PTs (X.blk s H scope (compEnvC scope cl C X.env) fp) ifs tt)
    (hi1 : ∀ (s : Shared) (H : Hp) (C : Addr) (cl : List (Str × Addr)) (fp : List Addr), PI (X.blk s H scope (compEnvC scope cl C X.env) fp) tg1 iter1 wi1) (hg1 : ∀ (s : Shared) (H : Hp) (C : Addr) (cl : List (Str × Addr)) (fp : List Addr), PG (X.blk s H scope (compEnvC scope cl C X.env) fp) tg1 g1) (ht1 : ∀ (s : Shared) (H : Hp) (C : Addr) (cl : List (Str × Addr)) (fp : List Addr), PTs (X.blk s H scope (compEnvC scope cl C X.env) fp) ifs1 tt1)
    (hi2 : ∀ (s : Shared) (H : Hp) (C : Addr) (cl : List (Str × Addr)) (fp : List Addr), PI (X.blk s H scope (compEnvC scope cl C X.env) fp) tg2 iter2 wi2) (hg2 : ∀ (s : Shared) (H : Hp) (C : Addr) (cl : List (Str × Addr)) (fp : List Addr), PG (X.blk s H scope (compEnvC scope cl C X.env) fp) tg2 g2) (ht2 : ∀ (s : Shared) (H : Hp) (C : Addr) (cl : List (Str × Addr)) (fp : List Addr), PTs (X.blk s H scope (compEnvC scope cl C X.env) fp) ifs2 tt2)
    (he : ∀ (s : Shared) (H : Hp) (C : Addr) (cl : List (Str × Addr)) (fp : List Addr), PE (X.blk s H scope (compEnvC scope cl C X.env) fp) elt te) (hs : ∀ x, foldedSetIterable iter X.env x = pure x := by intro _; rfl) (hs1 : ∀ env x, foldedSetIterable iter1 env x = pure x := by intro _ _; rfl) (hs2 : ∀ env x, foldedSetIterable iter2 env x = pure x := by intro _ _; rfl) :
    PE X (.ListComp elt [⟨tg, iter, ifs, 0⟩, ⟨tg1, iter1, ifs1, 0⟩, ⟨tg2, iter2, ifs2, 0⟩] scope pos) (tLc3 wi g tt wi1 g1 tt1 wi2 g2 tt2 te (own.map (·.2)) vs1 vs2) := by
  refine ⟨fun pins s σ H Q I h => ?_⟩
  rw [eval_ListComp]
  refine lc3_core hc hN I hi ok hv hv2 hg ht he hs hi1 hg1 ht1 hi2 hg2 ht2 hs1 hs2 h fun D C s' m H' I' q hn f => ⟨m, hn, fun h'' sb => ?_⟩
  obtain ⟨f0, f1, f2, f3, f4, f5⟩ := f
  exact ⟨.ref D, H', I'.turned (t' := s'.toks) (fun b o hb e => (sb.2 b hb).trans e) f0 f1 f3 f4 f5, rfl, q⟩
end
end L2

/-! K17 -/
/-! K17: a walk within, by what holds behind each turn; three clauses over the judgements. -/
namespace K25
open PySem PySem.Spec PyProof.Rows L2
section
variable {δ : Type} {J : It} {g : TG} {ds : List δ} {up : δ → L2.St → L2.St} {Gw Hw : Hp}
theorem wk_loop (wk : Wkd J g ds up Gw Hw) {H : Hp} (Pv : Nat → Hp → Prop) (Nx : Hp → Prop) (B : L2.St → Hp → (Hp → Prop) → Prop) (σ0 : L2.St) (h0 : Pv 0 H) (hs : ∀ i H, Pv i H → Sub Gw H ∧ Frz Hw H)
    (turn : ∀ i d H H', ds[i]? = some d → Pv i H → Same H H' → ∀ N : Hp → Prop, (∀ H, Pv (i + 1) H → N H) → B (up d σ0) H' N) (done : ∀ H, Pv ds.length H → Nx H) :
    ∃ W : Nat → Nat → Hp → Prop, (∃ m, W 0 m H) ∧ ∀ i m H, W i m H → (J.stop i H ∧ Nx H) ∨ (J.go i H ∧ ∃ N : Hp → Prop, (∀ H', N H' → ∃ m', m' < m ∧ W (i + 1) m' H') ∧ ∀ x H', J.yld i H x H' → g x σ0 H' fun σ2 H2 => B σ2 H2 N) := by
  refine ⟨fun i m H => m = ds.length - i ∧ i ≤ ds.length ∧ Pv i H, ⟨ds.length, by simp, Nat.zero_le _, h0⟩, ?_⟩
  rintro i m H2 ⟨rfl, hil, pv⟩
  obtain ⟨s2, f2⟩ := hs i H2 pv
  by_cases hlt : i < ds.length
  · have hd : ds[i]? = some ds[i] := List.getElem?_eq_getElem hlt
    generalize ds[i] = d at hd
    obtain ⟨go, yl⟩ := wk.go H2 s2 f2 i d hd
    refine .inr ⟨go, fun H' => ∃ m', m' < ds.length - i ∧ (m' = ds.length - (i + 1) ∧ i + 1 ≤ ds.length ∧ Pv (i + 1) H'), fun H' z => z, fun x H3 y => ?_⟩
    obtain ⟨e3, asg⟩ := yl x H3 y
    exact asg σ0 _ fun H4 e4 => turn i d H2 H4 hd pv (e3.trans e4) _ fun H5 p5 => ⟨ds.length - (i + 1), by omega, rfl, hlt, p5⟩
  · have ei : i = ds.length := by omega
    subst ei
    exact .inl ⟨wk.stop H2 s2 f2, done H2 pv⟩
end
section
variable {α δ ε ζ : Type} {σ : L2.St} {G : Hp} {ds : List δ} {es : δ → List ε} {fs : δ → ε → List ζ} {up : δ → L2.St → L2.St} {up1 : δ → ε → L2.St → L2.St} {up2 : δ → ε → ζ → L2.St → L2.St} {wi wi1 wi2 : TI} {g g1 g2 : TG} {tt2 : TT} {te : TE} {vs vs1 vs2 : List Nat} {Pre : Hp → Prop} {pf : δ → ε → ζ → Bool}
def fl3 (es : δ → List ε) (fs : δ → ε → List ζ) (pf : δ → ε → ζ → Bool) (val : δ → ε → ζ → α) (d : δ) : List α := (es d).flatMap fun e => ((fs d e).filter (pf d e)).map (val d e)
theorem flat_snoc {α β : Type} {l : List α} {i : Nat} {d : α} {f : α → List β} (h : l[i]? = some d) : (l.take (i + 1)).flatMap f = (l.take i).flatMap f ++ f d := by
  rw [take_snoc h, List.flatMap_append]
  simp
theorem flat_pre {α β : Type} {l : List α} {i : Nat} {d : α} {f : α → List β} (h : l[i]? = some d) : ∃ r, l.flatMap f = (l.take i).flatMap f ++ (f d ++ r) := by
  obtain ⟨hi, e⟩ := List.getElem?_eq_some_iff.mp h
  refine ⟨(l.drop (i + 1)).flatMap f, ?_⟩
  conv => lhs; rw [← List.take_append_drop i l, List.drop_eq_getElem_cons hi]
  rw [List.flatMap_append, List.flatMap_cons, e]
theorem yes_if {σ : L2.St} {H : Hp} {A B : Hp → Prop} (h : A H) : tYes σ H fun b H3 => if b = true then A H3 else B H3 := by
  show (if true = true then A H else B H)
  rw [if_pos rfl]
  exact h
theorem gm_lc3 (R : α → V → Hp → Prop) (hR : ∀ a v G1 G2, Same G1 G2 → R a v G1 → R a v G2) (val : δ → ε → ζ → α) (hi : GI Pre wi g σ G ds up) (hi1 : ∀ d ∈ ds, ∀ G', Same G G' → GI Pre wi1 g1 (up d (wipe σ vs)) G' (es d) (up1 d))
    (hi2 : ∀ d ∈ ds, ∀ e ∈ es d, ∀ G', Same G G' → GI Pre wi2 g2 (up1 d e (wipe (up d (wipe σ vs)) vs1)) G' (fs d e) (up2 d e)) (hz : (ds.flatMap (fl3 es fs pf val)).length ≤ 100000)
    (hw : ∀ d ∈ ds, wipe (up d (wipe σ vs)) vs = wipe σ vs) (hw1 : ∀ d ∈ ds, ∀ e ∈ es d, wipe (up1 d e (wipe (up d (wipe σ vs)) vs1)) vs1 = wipe (up d (wipe σ vs)) vs1)
    (hw2 : ∀ d ∈ ds, ∀ e ∈ es d, ∀ f ∈ fs d e, wipe (up2 d e f (wipe (up1 d e (wipe (up d (wipe σ vs)) vs1)) vs2)) vs2 = wipe (up1 d e (wipe (up d (wipe σ vs)) vs1)) vs2)
    (ht : ∀ d ∈ ds, ∀ e ∈ es d, ∀ f ∈ fs d e, ∀ G', Same G G' → Gt tt2 (up2 d e f (wipe (up1 d e (wipe (up d (wipe σ vs)) vs1)) vs2)) G' (pf d e f))
    (he : ∀ d ∈ ds, ∀ e ∈ es d, ∀ f ∈ fs d e, pf d e f = true → ∀ G', Same G G' → Gx Pre te (up2 d e f (wipe (up1 d e (wipe (up d (wipe σ vs)) vs1)) vs2)) G' (R (val d e f)))
    (hP : ∀ H H', Same H H' → Pre H → Pre H') (hP2 : ∀ H p xs ys, H p = some (.lst xs) → Pre H → Pre (upd H p (.lst ys))) :
    Gm Pre (tLc3 wi g tYes wi1 g1 tYes wi2 g2 tt2 te vs vs1 vs2) σ G fun o G' => ∃ xs, o = .lst xs ∧ All2 (fun a v => R a v G') (ds.flatMap (fl3 es fs pf val)) xs := fun H s c Q q =>
  hi H s c _ fun J G1 H1 st1 wk D hD => by
    have c1 : Pre H1 := hP _ _ st1.keep c
    let S : Hp → Hp → List α → Prop := fun G2 H2 l => Stp G1 H1 G2 H2 ∧ G2 D = none ∧ Pre H2 ∧ ∃ xs, H2 D = some (.lst xs) ∧ All2 (fun a v => R a v G2) l xs
    have Sgrow : ∀ {G2 H2 H3 l}, S G2 H2 l → Same H2 H3 → S G2 H3 l := fun ⟨a, b, c, xs, d, e⟩ z => ⟨a.grow z, b, hP _ _ z c, xs, z _ _ d, e⟩
    have Sstep : ∀ {G2 H2 G3 H3 l}, S G2 H2 l → Stp G2 H2 G3 H3 → S G3 H3 l := fun ⟨a, b, c, xs, d, e⟩ z => ⟨a.trans z, z.new D b (by rw [d]; simp), hP _ _ z.keep c, xs, z.keep _ _ d, e.imp fun _ _ _ _ r => hR _ _ _ _ z.ex r⟩
    have hD1 : S G1 (upd H1 D (.lst [])) [] := ⟨(Stp.refl st1.sub).hide hD, st1.sub.non hD, hP _ _ (Same.put hD) c1, [], upd_same, .nil⟩
    refine wk_loop wk (fun i H2 => ∃ G2, S G2 H2 ((ds.take i).flatMap (fl3 es fs pf val))) _ (fun σ2 H2 N => wipe σ2 vs = wipe σ vs ∧ tYes σ2 H2 fun b H3 => if b = true then wi1 σ2 H3 fun J1 H4 => ∃ W1 : Nat → Nat → Hp → Prop, (∃ m, W1 0 m H4) ∧ ∀ j k H, W1 j k H → _ else N H3) (wipe σ vs) ⟨G1, hD1⟩ (fun i H2 ⟨G2, s2⟩ => ?_) (fun i d H2 H3 hd ⟨G2, s2⟩ e3 N hN => ?_) fun H2 ⟨G2, s2⟩ => ?_
    · exact ⟨s2.1.sub.less s2.1.ex, Same.frz s2.1.keep⟩
    · have dm : d ∈ ds := List.mem_of_getElem? hd
      refine ⟨hw d dm, yes_if ?_⟩
      have s3 := Sgrow s2 e3
      refine hi1 d dm G2 (st1.ex.trans s3.1.ex) H3 s3.1.sub s3.2.2.1 _ fun J1 G5 H5 st5 wk1 => ?_
      have s5 := Sstep s3 st5
      obtain ⟨r1, hr1⟩ := flat_pre (f := fl3 es fs pf val) hd
      refine wk_loop wk1 (fun j H6 => ∃ G6, S G6 H6 ((ds.take i).flatMap (fl3 es fs pf val) ++ ((es d).take j).flatMap fun e => ((fs d e).filter (pf d e)).map (val d e)) ∧ Same G5 G6 ∧ Frz H5 H6) _
        (fun σ3 H5 N1 => wipe σ3 vs1 = wipe (up d (wipe σ vs)) vs1 ∧ tYes σ3 H5 fun b H6 => if b = true then wi2 σ3 H6 fun J2 H7 => ∃ W2 : Nat → Nat → Hp → Prop, (∃ m, W2 0 m H7) ∧ ∀ j k H, W2 j k H → _ else N1 H6) (wipe (up d (wipe σ vs)) vs1) ⟨G5, by simpa using s5, Same.refl _, Frz.refl _⟩ (fun j H6 ⟨G6, s6, e6, f6⟩ => ⟨s6.1.sub.less e6, f6⟩) (fun j e H6 H7 he1 ⟨G6, s6, e6, f6⟩ e7 N1 hN1 => ?_) fun H6 ⟨G6, s6, e6, f6⟩ => hN H6 ⟨G6, ?_⟩
      · have em : e ∈ es d := List.mem_of_getElem? he1
        refine ⟨hw1 d dm e em, yes_if ?_⟩
        have s7 := Sgrow s6 e7
        have f7 := f6.same e7
        refine hi2 d dm e em G6 (st1.ex.trans s7.1.ex) H7 s7.1.sub s7.2.2.1 _ fun J2 G8 H8 st8 wk2 => ?_
        have s8 := Sstep s7 st8
        obtain ⟨r2, hr2⟩ := flat_pre (f := fun e => ((fs d e).filter (pf d e)).map (val d e)) he1
        refine wk_loop wk2 (fun k H9 => ∃ G9, S G9 H9 ((ds.take i).flatMap (fl3 es fs pf val) ++ (((es d).take j).flatMap fun e => ((fs d e).filter (pf d e)).map (val d e)) ++ (((fs d e).take k).filter (pf d e)).map (val d e)) ∧ Same G5 G9 ∧ Frz H5 H9 ∧ Same G8 G9 ∧ Frz H8 H9) _
          (fun σ4 H8 N2 => wipe σ4 vs2 = wipe (up1 d e (wipe (up d (wipe σ vs)) vs1)) vs2 ∧ tt2 σ4 H8 fun b H9 => if b = true then te σ4 H9 fun y H10 => ∃ acc, H10 D = some (.lst acc) ∧ acc.length < sizeLine ∧ N2 (upd H10 D (.lst (acc ++ [y]))) else N2 H9) (wipe (up1 d e (wipe (up d (wipe σ vs)) vs1)) vs2)
          ⟨G8, by simpa using s8, e6.trans st8.ex, f7.same st8.keep, Same.refl _, Frz.refl _⟩ (fun k H9 ⟨G9, s9, _, _, e9, f9⟩ => ⟨s9.1.sub.less e9, f9⟩) (fun k f H9 H10 hf1 ⟨G9, s9, e9, f9, e89, f89⟩ e10 N2 hN2 => ?_) fun H9 ⟨G9, s9, e9, f9, e89, f89⟩ => hN1 H9 ⟨G9, ?_, e9, f9⟩
        · have fm : f ∈ fs d e := List.mem_of_getElem? hf1
          refine ⟨hw2 d dm e em f fm, ?_⟩
          have s10 := Sgrow s9 e10
          refine ht d dm e em f fm G9 (st1.ex.trans s10.1.ex) H10 s10.1.sub _ fun H11 e11 => ?_
          have s11 := Sgrow s10 e11
          have f11 := (f9.same e10).same e11
          have f811 := (f89.same e10).same e11
          cases hp : pf d e f with
          | true =>
            simp only [if_true]
            refine he d dm e em f fm hp G9 (st1.ex.trans s11.1.ex) H11 s11.1.sub s11.2.2.1 _ fun v G12 H12 st12 rv => ?_
            obtain ⟨t12, gD, c12, xs, hDx, al⟩ := Sstep s11 st12
            refine ⟨xs, hDx, ?_, hN2 _ ⟨G12, ⟨t12.write gD hD, gD, hP2 _ _ _ _ hDx c12, xs ++ [v], upd_same, ?_⟩, e9.trans st12.ex, (f11.same st12.keep).upd (by rw [hDx]; simp), e89.trans st12.ex, (f811.same st12.keep).upd (by rw [hDx]; simp)⟩⟩
            · have hl := al.length
              obtain ⟨r3, hr3⟩ : ∃ r3, ((fs d e).filter (pf d e)).map (val d e) = (((fs d e).take k).filter (pf d e)).map (val d e) ++ (val d e f :: r3) := by
                obtain ⟨hk, ek⟩ := List.getElem?_eq_some_iff.mp hf1
                refine ⟨(((fs d e).drop (k + 1)).filter (pf d e)).map (val d e), ?_⟩
                conv => lhs; rw [← List.take_append_drop k (fs d e), List.drop_eq_getElem_cons hk, ek]
                rw [List.filter_append, List.filter_cons, if_pos hp, List.map_append, List.map_cons]
              have hq : fl3 es fs pf val d = ((es d).take j).flatMap (fun e => ((fs d e).filter (pf d e)).map (val d e)) ++ (((fs d e).filter (pf d e)).map (val d e) ++ r2) := hr2
              have := congrArg List.length hr1
              rw [hq, hr3] at this
              simp only [List.length_append, List.length_cons] at this hl
              rw [sizeLine_eq]
              omega
            · rw [take_snoc hf1, List.filter_append, List.map_append, ← List.append_assoc]
              have : ([f].filter (pf d e)).map (val d e) = [val d e f] := by simp [hp]
              rw [this]
              exact al.snoc rv
          | false =>
            simp only [Bool.false_eq_true, if_false]
            refine hN2 _ ⟨G9, ?_, e9, f11, e89, f811⟩
            rw [take_snoc hf1, List.filter_append, List.map_append]
            have : ([f].filter (pf d e)).map (val d e) = [] := by simp [hp]
            rw [this, List.append_nil]
            exact s11
        · rw [List.take_length] at s9
          rw [flat_snoc he1, ← List.append_assoc]
          exact s9
      · rw [List.take_length] at s6
        rw [flat_snoc hd]
        exact s6
    · obtain ⟨t2, gD, c2, xs, hDx, al⟩ := s2
      rw [List.take_length] at al
      exact q D _ G2 H2 (st1.trans t2) (st1.keep.free hD) gD hDx ⟨xs, rfl, al⟩
end
end K25

/-! F14 -/
namespace K25
open PySem PySem.Spec PyProof.Rows L2
/-! ### groups by names -/
abbrev Grp : Type := List (Str × List Str)
def addG (g : Grp) (v i : Str) : Grp := putD g v ((valD g v).getD [] ++ [i])
def grpOf (l : List (Str × Option Str)) : Grp := l.foldl (fun g q => match q.2 with
  | some v => addG g v q.1
  | none => g) []
theorem grpOf_snoc (l : List (Str × Option Str)) (q : Str × Option Str) : grpOf (l ++ [q]) = match q.2 with
  | some v => addG (grpOf l) v q.1
  | none => grpOf l := by
  unfold grpOf
  rw [List.foldl_append]
  rfl
def pairsG (g : Grp) : List (List Str) := g.flatMap fun q => q.2.flatMap fun a => (q.2.filter fun b => decide (a.cps.toList < b.cps.toList)).map fun b => [a, b]
/-- (id, the field's name) -/
def tgOf (l : List (Str × Row)) (f : Str) : List (Str × Option Str) := l.map fun q => (q.1, (valD q.2 f).join)
def shareD (R : Rws) (t f : Str) : List (List Str) := sortP (pairsG (grpOf (tgOf (srtD (tOf R t)) f)))
theorem putD_keys {α : Type} (l : List (Str × α)) (k : Str) (x : α) : (putD l k x).map (·.1) = if k ∈ l.map (·.1) then l.map (·.1) else l.map (·.1) ++ [k] := by
  unfold putD
  by_cases m : k ∈ l.map (·.1)
  · rw [if_pos m, if_pos m, List.map_map]
    refine List.map_congr_left fun p _ => ?_
    show (if p.1 = k then (p.1, x) else p).1 = p.1
    by_cases e : p.1 = k
    · rw [if_pos e]
    · rw [if_neg e]
  · rw [if_neg m, if_neg m, List.map_append]
    rfl
theorem putD_nodup {α : Type} {l : List (Str × α)} (h : (l.map (·.1)).Nodup) (k : Str) (x : α) : ((putD l k x).map (·.1)).Nodup := by
  rw [putD_keys]
  by_cases m : k ∈ l.map (·.1)
  · rw [if_pos m]; exact h
  · rw [if_neg m, List.nodup_append]
    refine ⟨h, by simp, fun a ha b hb => ?_⟩
    rw [List.mem_singleton] at hb
    rw [hb]
    exact fun e => m (e ▸ ha)
theorem putD_len {α : Type} (l : List (Str × α)) (k : Str) (x : α) : (putD l k x).length ≤ l.length + 1 := by
  unfold putD
  by_cases m : k ∈ l.map (·.1)
  · rw [if_pos m, List.length_map]; omega
  · rw [if_neg m]; simp
theorem putD_mem {α : Type} {l : List (Str × α)} {k : Str} {x : α} {p : Str × α} (h : p ∈ putD l k x) : p ∈ l ∨ p = (k, x) := by
  unfold putD at h
  by_cases m : k ∈ l.map (·.1)
  · rw [if_pos m] at h
    obtain ⟨q, hq, e⟩ := List.mem_map.mp h
    by_cases e2 : q.1 = k
    · rw [if_pos e2] at e
      right
      rw [← e, e2]
    · rw [if_neg e2] at e
      rw [← e]
      exact .inl hq
  · rw [if_neg m] at h
    rcases List.mem_append.mp h with h | h
    · exact .inl h
    · exact .inr (List.mem_singleton.mp h)
theorem putD_val {α : Type} (l : List (Str × α)) (k j : Str) (x : α) : valD (putD l k x) j = if j = k then some x else valD l j := by
  unfold putD
  by_cases m : k ∈ l.map (·.1)
  · rw [if_pos m]
    induction l with
    | nil => cases m
    | cons p l ih =>
      rw [List.map_cons, valD_cons]
      by_cases e : p.1 = k
      · rw [if_pos e]
        by_cases e2 : p.1 = j
        · rw [if_pos e2, if_pos (by rw [← e2, e])]
        · rw [if_neg e2, valD_cons, if_neg e2]
          rw [if_neg fun z => e2 (by rw [z, e])]
          clear ih m
          induction l with
          | nil => rfl
          | cons q l ih =>
            rw [List.map_cons, valD_cons, valD_cons]
            by_cases e3 : q.1 = k
            · rw [if_pos e3, if_neg (show ¬ q.1 = j from fun z => e2 (by rw [← z, e3, e])), if_neg (show ¬ q.1 = j from fun z => e2 (by rw [← z, e3, e])), ih]
            · rw [if_neg e3, ih]
      · rw [if_neg e]
        by_cases e2 : p.1 = j
        · rw [if_pos e2, valD_cons, if_pos e2, if_neg fun z => e (by rw [e2, z])]
        · rw [if_neg e2, valD_cons, if_neg e2]
          refine ih ?_
          rw [List.map_cons] at m
          rcases List.mem_cons.mp m with h | h
          · exact absurd h.symm e
          · exact h
  · rw [if_neg m]
    have : valD l k = none := valD_none.mpr m
    induction l with
    | nil =>
      rw [List.nil_append, valD_cons, valD_nil]
      by_cases e : j = k
      · rw [if_pos e, if_pos e.symm]
      · rw [if_neg e, if_neg fun z => e z.symm]
    | cons p l ih =>
      rw [List.cons_append, valD_cons, valD_cons]
      by_cases e : p.1 = j
      · rw [if_pos e, if_pos e, if_neg fun z => m (by rw [← z, ← e]; simp)]
      · rw [if_neg e, if_neg e]
        refine ih (fun z => m (by rw [List.map_cons]; exact List.mem_cons_of_mem _ z)) ?_
        rw [valD_cons] at this
        by_cases e2 : p.1 = k
        · rw [if_pos e2] at this; cases this
        · rw [if_neg e2] at this; exact this
theorem valV_ads {α : Type} (g : List (Str × α)) (ads : Str → Addr) (v : Str) : valV (g.map fun q => ((Sum.inr q.1 : Key), V.ref (ads q.1))) (Sum.inr v) = if v ∈ g.map (·.1) then some (.ref (ads v)) else none := by
  induction g with
  | nil => rfl
  | cons p l ih =>
    rw [List.map_cons, List.map_cons]
    by_cases e : p.1 = v
    · rw [valV_pos (by rw [e]), if_pos (by rw [e]; exact List.mem_cons_self)]
      subst e; rfl
    · rw [valV_neg fun z => e (Sum.inr.inj z), ih]
      by_cases m : v ∈ l.map (·.1)
      · rw [if_pos m, if_pos (List.mem_cons_of_mem _ m)]
      · rw [if_neg m, if_neg fun z => (List.mem_cons.mp z).elim (fun h => e h.symm) m]
theorem adsK_congr {α β : Type} {g : List (Str × α)} {g' : List (Str × β)} (ads : Str → Addr) (e : g.map (·.1) = g'.map (·.1)) : (g.map fun q => ((Sum.inr q.1 : Key), V.ref (ads q.1))) = g'.map fun q => ((Sum.inr q.1 : Key), V.ref (ads q.1)) := by
  have := congrArg (List.map fun t : Str => ((Sum.inr t : Key), V.ref (ads t))) e
  rw [List.map_map, List.map_map] at this
  exact this
theorem all2_swap {α β : Type} {R : α → β → Prop} {l : List α} {m : List β} (h : All2 R l m) : All2 (fun b a => R a b) m l := by
  induction h with
  | nil => exact .nil
  | cons r _ ih => exact .cons r ih
abbrev ShInv (H01 G2 H2 : Hp) (m : Addr) (ads : Str → Addr) (g : Grp) : Prop :=
  Own H01 G2 m H2 (.dK (g.map fun q => (Sum.inr q.1, V.ref (ads q.1)))) ∧ (∀ q ∈ g, Own H01 G2 (ads q.1) H2 (sL q.2) ∧ ads q.1 ≠ m) ∧ ∀ q ∈ g, ∀ q' ∈ g, ads q.1 = ads q'.1 → q.1 = q'.1
theorem rev_ind {α : Type} {P : List α → Prop} (h0 : P []) (hs : ∀ l a, P l → P (l ++ [a])) (l : List α) : P l := by
  have : ∀ l : List α, P l.reverse := by
    intro l
    induction l with
    | nil => exact h0
    | cons a l ih => rw [List.reverse_cons]; exact hs _ _ ih
  have := this l.reverse
  rwa [List.reverse_reverse] at this
theorem grp_small : ∀ (l : List (Str × Option Str)), ((grpOf l).map (·.1)).Nodup ∧ (grpOf l).length ≤ l.length ∧ ∀ q ∈ grpOf l, q.2.length ≤ l.length := by
  intro l
  refine rev_ind (P := fun l => ((grpOf l).map (·.1)).Nodup ∧ (grpOf l).length ≤ l.length ∧ ∀ q ∈ grpOf l, q.2.length ≤ l.length) ⟨List.nodup_nil, Nat.le_refl _, fun q hq => by cases hq⟩ (fun l q ih => ?_) l
  · obtain ⟨h1, h2, h3⟩ := ih
    rw [grpOf_snoc, List.length_append]
    cases e : q.2 with
    | none => exact ⟨h1, by simp; omega, fun p hp => by have := h3 p hp; simp; omega⟩
    | some v =>
      refine ⟨putD_nodup h1 _ _, ?_, fun p hp => ?_⟩
      · have := putD_len (grpOf l) v ((valD (grpOf l) v).getD [] ++ [q.1])
        show (addG _ _ _).length ≤ _
        unfold addG
        simp
        omega
      · rcases putD_mem hp with hp | rfl
        · have := h3 p hp; simp; omega
        · show ((valD (grpOf l) v).getD [] ++ [q.1]).length ≤ _
          rw [List.length_append]
          cases e2 : valD (grpOf l) v with
          | none => simp
          | some xs =>
            have := h3 _ (valD_mem e2)
            simp at this ⊢
            omega
section
variable {K : PySem.W.Frag} {σ : L2.St} {G H : Hp} {ta tb td ty te : TE} {D : Ends} {rest : TS} {Φ : V → Hp → Prop} {mk : HO} {m : Addr} {k : Key} {kvs : List (Key × V)} {v : V}
/-- a, b = (a thing, known), (a new thing of one's own) -/
theorem q_parXN {i j : Nat} (s : Sub G H) (h1 : Ge ta σ G Φ) (h2 : ∀ G', Same G G' → Gn mk tb σ G') (k : ∀ v p G' H', Stp G H G' H' → Φ v G' → G' p = none → H p = none → H' p = some mk → rest D ((σ.set i (some v)).set j (some (.ref p))) H') : tSeq (tPar i j (tCons ta (tCons tb tNil))) rest D σ H :=
  h1 H s trivial _ fun v G1 H1 s1 f => h2 G1 s1.ex H1 s1.sub _ fun p H2 e2 hp h2 => ⟨v, .ref p, rfl, k v p G1 H2 (s1.grow e2) f (s1.sub.non hp) (s1.keep.free hp) h2⟩
/-- d.setdefault(k, []).append(v) -/
theorem s_setdApp (s : Sub G H) (hd : Gv td σ G (.ref m)) (hk : Gv ty σ G (kV k)) (hv : Gv te σ G v) (hm : H m = some (.dK kvs)) (hl : kvs.length < sizeLine)
    (found : ∀ w, valV kvs k = some w → ∃ l xs, w = .ref l ∧ H l = some (.lst xs) ∧ xs.length < sizeLine ∧ ∀ H', Same H H' → D.nx σ (upd H' l (.lst (xs ++ [v]))))
    (gm : G m = none) (new : valV kvs k = none → ∀ l H3 H4, Same H H3 → H l = none → H3 l = some (.lst []) → l ≠ m → Same (upd H3 m (.dK (putK kvs k (.ref l)))) H4 → D.nx σ (upd H4 l (.lst [v]))) : tDrop (tBM K "list" rAppend (tDSetd td ty (tLst tNil)) (tCons te tNil)) D σ H :=
  hd H s _ fun H1 e1 => ⟨m, rfl, .inl ⟨_, .inl (e1 _ _ hm)⟩, hk H1 (s.same e1) _ fun H2 e2 => gl_lst ga_nil (by decide) H2 ((s.same e1).same e2) _ fun p H3 e3 hp h3 => by
    have e13 := (e1.trans e2).trans e3
    refine ⟨kvs, k, e13 _ _ hm, rfl, hl, fun w hw => ?_, fun hn => ?_⟩
    · obtain ⟨l, xs, rfl, hx, hlx, q⟩ := found w hw
      refine ⟨.inl ⟨rfl, xs, SqL.of (e13 _ _ hx)⟩, ga_cons hv ga_nil H3 (s.same e13) _ fun H4 e4 => ⟨l, xs, v, rfl, rfl, e4 _ _ (e13 _ _ hx), hlx, q H4 (e13.trans e4)⟩⟩
    · have pm : p ≠ m := fun z => by rw [z, (e1.trans e2) _ _ hm] at hp; cases hp
      have h3' : upd H3 m (.dK (putK kvs k (.ref p))) p = some (.lst []) := by rw [upd_ne pm]; exact h3
      refine ⟨.inl ⟨rfl, [], SqL.of h3'⟩, ga_cons hv ga_nil _ ((s.same e13).upd gm) _ fun H4 e4 => ⟨p, [], v, rfl, rfl, e4 _ _ h3', by rw [sizeLine_eq]; decide, new hn p H3 H4 e13 ((e1.trans e2).free hp) h3 pm e4⟩⟩⟩
end
section
variable {P : Program} {w : World} {K : PySem.W.Frag} {mg : Str → Option Value} {base : Heap}
/-- own things are told -/
theorem Stp.tels {G0 H0 G H : Hp} {M : List Addr} (st : Stp G0 H0 G H) (h : ∀ a ∈ M, H0 a = none ∧ G a = none) : Stp G0 H0 (tel G H M) H :=
  ⟨st.ex.trans (tel_same fun m hm => (h m hm).2), tel_sub st.sub, st.keep, fun a h1 h2 => by
    unfold tel
    rw [if_neg fun m => h2 (h a m).1]
    exact st.new a h1 h2⟩
def spSharing (CT : Addr) : Sp := fun vs H Q _ => ∃ a t f s tb R k ad fs G, vs = [.ref a, .str t, .str f] ∧ Sub G H ∧ TabX CT G G a s tb R k ad ∧ RwOk tb R ∧ TbsOk tb ∧ valD tb t = some fs ∧ f ∈ fs.map (·.1) ∧ ∀ v G' H', Stp G H G' H' → TusV v (shareD R t f) G' → Q v H'
abbrev N_sharing : List Str := ["tables", "table", "field", "rows", "met", "ident", "one", "other", "some"]
theorem sc_sharing : FnScope N_sharing ["tables", "table", "field"] (defScope s_sharing) := ⟨rfl, rfl, rfl, by decide +kernel, rfl, by decide +kernel, by decide +kernel⟩
-- slots: 0 tables, 1 table, 2 field, 3 rows, 4 met, 5 ident, 6 one, 7 other, 8 some
theorem c_sharing (T : Tx K mg) : Cal P w K mg base 2 "sharing" (spSharing (He.ga K "Tables")) := by
  refine ⟨_, _, ["tables", "table", "field"], fn_body T.f_sharing sc_sharing (fun vs H Q E h => by obtain ⟨_, _, _, _, _, _, _, _, _, _, rfl, _⟩ := h; rfl) (fun cdv A outer s H vs Q E hr h => ?_), T.g_sharing, T.f_sharing.kp, T.f_sharing.bindsN fun _ _ _ _ _ _ us hl => match us, hl with | [_, _, _], _ => rfl⟩
  obtain ⟨a, t, f, s', tb, R, kk, ad, fs, G, rfl, sG, hT, oR, oT, e1, hf, k⟩ := h
  have hu := hu_of hr
  refine ⟨_,
    (pss_cons (ps_par (i := 3) (j := 4) (by rfl) sc_sharing.nd rfl rfl (by decide) rfl rfl (pa_cons (pe_met (c_Tables_rows T) hr (by decide) (pv 0) (pa_cons (pv 1) pa_nil)) (pa_cons pe_dnewK pa_nil)) (by rfl))
    (pss_cons (ps_lkS (ps_for PassesOwn.never rfl (pi_keys (pv 3)) (pg_name (i := 5) sc_sharing.nd rfl (Or.inl rfl))
      (pss_one (ps_if (pt_cmpR op_notN (pe_dget hu (pe_dget hu (pv 3) (pv 5) (fun _ _ => rfl)) (pv 2) (fun _ _ => rfl)) pe_non (nomark _))
        (pss_one (ps_expr (pe_bmK rfl PySem.F.plainAttrs_list PySem.F.slot_list_append PySem.F.type_list_append mt_append (pe_dsetd (pv 4) (pe_dget hu (pe_dget hu (pv 3) (pv 5) (fun _ _ => rfl)) (pv 2) (fun _ _ => rfl)) (pe_lst pa_nil) ⟨rfl, by rfl, by rfl, by rfl⟩) (pa_cons (pv 5) pa_nil))))
        pss_nil))))
    (pss_one (ps_ret (pe_callB (cr_sortedUK rfl) (by rfl) T.b_sorted (by decide +kernel) (pa_cons (pe_lk (pe_lc3 (vs1 := [6, 7]) (vs2 := [7]) rfl sc_sharing.nd (pi_values (pv 4)) (blkOk_by (own := [("some", 8), ("one", 6), ("other", 7)]) (N := N_sharing) (sc := defScope s_sharing) (by decide +kernel)) (by decide) (by decide) (fun _ _ _ _ _ => (pg_name (i := 8) sc_sharing.nd rfl (Or.inl rfl))) (fun _ _ _ _ _ => pts_nil) (fun _ _ _ _ _ => (pi_listK rfl (pv 8))) (fun _ _ _ _ _ => (pg_name (i := 6) sc_sharing.nd rfl (Or.inl rfl))) (fun _ _ _ _ _ => pts_nil) (fun _ _ _ _ _ => (pi_listK rfl (pv 8))) (fun _ _ _ _ _ => (pg_name (i := 7) sc_sharing.nd rfl (Or.inl rfl))) (fun _ _ _ _ _ => (pts_one (pt_cmpR op_lt_str (pv 6) (pv 7) (nomark _)))) (fun _ _ _ _ _ => (pe_tup (pa_cons (pv 6) (pa_cons (pv 7) pa_nil)))))) pa_nil)))))), ?_⟩
  have ht : t ∈ tb.map (·.1) := List.mem_map.mpr ⟨_, valD_mem e1, rfl⟩
  obtain ⟨dx, hi⟩ := id hT.ins
  have l10 := oR.len
  have ltl := tOf_len R t
  refine q_parXN sG (ge_meth (gv_var rfl) hi rfl (ga_cons (gv_var rfl) ga_nil) (sx_rows hT ht oR)) (fun G' e => gd_new) fun v m G1 H1 s1 hv gm hm0 hm => ?_
  obtain ⟨rd, rkv, rfl, hrd, hrp⟩ := hv
  have nd := srtD_nodup (tOf_nodup oR.nd t)
  have slen : (srtD (tOf R t)).length ≤ 10 := by rw [srtD_len]; omega
  have rowf : ∀ q ∈ srtD (tOf R t), ∃ x, valD q.2 f = some x := fun q hq => by
    obtain ⟨fs', e', hC⟩ := oR.row (t := t) (i := q.1) (r := q.2) (srtD_mem.mp hq)
    rw [e1] at e'
    cases e'
    exact valD_in (by rw [hC.ks]; exact hf)
  refine q_of (s_lkS s1 hrd fun H01 H1' D1 st1 lk hb hn nxE rtE => ?_)
  have mrd : m ≠ rd := fun z => by rw [z, hrd] at gm; cases gm
  refine s_for (Pre := Lk rd rkv) (ds := srtD (tOf R t)) (up := upN 5 fun q => .str q.1) (Iv := fun (j : Nat) σ2 G2 H2 => (∃ v5, σ2 = [some (.ref a), some (.str t), some (.str f), some (.ref rd), some (.ref m), v5, none, none, none]) ∧ Same G1 G2 ∧
      ∃ ads : Str → Addr, ShInv H01 G2 H2 m ads (grpOf (tgOf ((srtD (tOf R t)).take j) f)))
    st1 (gi_keysD (gv_var rfl) hrp) lk (fun i σ' G' H1 H2 e h => ?_) (fun G2 H2 s2 => ?_) (fun G2 H2 s2 j q hq σ2 G3 H3 lp iv => ?_) fun G3 H3 σ2 lp iv => ?_
  · obtain ⟨h1, h2, ads, h3, h4, h5⟩ := h
    exact ⟨h1, h2, ads, ⟨h3.grow e, fun q hq => ⟨(h4 q hq).1.grow e, (h4 q hq).2⟩, h5⟩⟩
  · have hbm : H1' m = some (.dK []) := by rw [hb m mrd]; exact hm
    refine ⟨⟨_, rfl⟩, s2.ex, fun _ => 0, ⟨⟨(hn m).mpr hm0, s2.new m gm (by rw [hbm]; simp), s2.keep _ _ hbm⟩, fun q hq => (nomatch hq), fun q hq => (nomatch hq)⟩⟩
  · obtain ⟨⟨v5, rfl⟩, eG, ads, om, ol, inj⟩ := iv
    have hqm := List.mem_of_getElem? hq
    obtain ⟨x, ex⟩ := rowf q hqm
    have tk : tgOf ((srtD (tOf R t)).take (j + 1)) f = tgOf ((srtD (tOf R t)).take j) f ++ [(q.1, x)] := by
      unfold tgOf
      rw [take_snoc hq, List.map_append, List.map_cons, List.map_nil, ex]
      rfl
    obtain ⟨gs1, gs2, gs3⟩ := grp_small (tgOf ((srtD (tOf R t)).take j) f)
    have tlen : (tgOf ((srtD (tOf R t)).take j) f).length ≤ 10 := by unfold tgOf; rw [List.length_map, List.length_take]; omega
    obtain ⟨hv1, ra, hv2, hra⟩ := (hrp.mono row_mono eG).at_ (valD_of nd hqm)
    have gx : ∀ {σ : L2.St}, σ[2]? = some (some (.str f)) → σ[3]? = some (some (.ref rd)) → σ[5]? = some (some (.str q.1)) → Gv (tDGet (tDGet (tVar 3) (tVar 5)) (tVar 2)) σ G3 (ov x) := fun h2 h3 h5 => gv_dget (k := Sum.inr f) (gv_eq hv2 (gv_dget (k := Sum.inr q.1) (gv_var h3) (gv_var h5) (eG _ _ hrd) hv1)) (gv_var h2) hra (by rw [rowK_val, ex]; rfl)
    refine s_if lp.st.sub (gt_test (gv_op (gx rfl rfl rfl) gv_c rv_notN)) (fun hx H4 e4 => ?_) fun hx H4 e4 => ?_
    · cases x with
      | none => simp [ov] at hx
      | some v =>
        generalize hg : grpOf (tgOf ((srtD (tOf R t)).take j) f) = g at om ol inj gs1 gs2 gs3
        have hg' : grpOf (tgOf ((srtD (tOf R t)).take (j + 1)) f) = addG g v q.1 := by rw [tk, grpOf_snoc, hg]
        replace lp := lp.grow e4
        replace om := om.grow e4
        replace ol : ∀ p ∈ g, Own H01 G3 (ads p.1) H4 (sL p.2) ∧ ads p.1 ≠ m := fun p hp => ⟨(ol p hp).1.grow e4, (ol p hp).2⟩
        refine s_setdApp (m := m) (k := Sum.inr v) (v := .str q.1) lp.st.sub (gv_var rfl) (gx rfl rfl rfl) (gv_var rfl) om.at_ (by rw [List.length_map, sizeLine_eq]; omega) (fun w hw => ?_) om.g fun hw l H5 H6 e5 hl0 hl5 lm e6 => ?_
        · rw [valV_ads] at hw
          by_cases mv : v ∈ g.map (·.1)
          · rw [if_pos mv] at hw
            cases hw
            obtain ⟨xs, exs⟩ := valD_in mv
            have pm := valD_mem exs
            obtain ⟨w1, w2⟩ := ol _ pm
            have xl := gs3 _ pm
            refine ⟨ads v, xs.map V.str, rfl, w1.at_, by rw [List.length_map, sizeLine_eq]; simp at xl; omega, fun H5 e5 => ⟨G3, (lp.grow e5).write (w1.grow e5) (by simp), ⟨_, rfl⟩, eG, ads, ?_⟩⟩
            rw [hg']
            have ag : addG g v q.1 = putD g v (xs ++ [q.1]) := by unfold addG; rw [exs]; rfl
            have keys : (addG g v q.1).map (·.1) = g.map (·.1) := by rw [ag, putD_keys, if_pos mv]
            refine ⟨?_, fun p hp => ?_, fun p hp p' hp' e => ?_⟩
            · rw [adsK_congr ads keys]
              exact (om.grow e5).other (fun z => w2 z.symm)
            · rw [ag] at hp
              unfold putD at hp
              rw [if_pos mv] at hp
              obtain ⟨p0, hp0, ep⟩ := List.mem_map.mp hp
              by_cases ev : p0.1 = v
              · rw [if_pos ev] at ep
                subst ep
                show Own H01 G3 (ads p0.1) _ _ ∧ ads p0.1 ≠ m
                rw [ev]
                refine ⟨?_, w2⟩
                have := (w1.grow e5).write (u := .lst (xs.map V.str ++ [V.str q.1]))
                unfold sL
                rw [List.map_append]
                exact this
              · rw [if_neg ev] at ep
                subst ep
                exact ⟨((ol p0 hp0).1.grow e5).other fun z => ev (inj p0 hp0 _ pm z), (ol p0 hp0).2⟩
            · have h1 : p.1 ∈ g.map (·.1) := by rw [← keys]; exact List.mem_map.mpr ⟨p, hp, rfl⟩
              have h2 : p'.1 ∈ g.map (·.1) := by rw [← keys]; exact List.mem_map.mpr ⟨p', hp', rfl⟩
              obtain ⟨a1, b1, c1⟩ := List.mem_map.mp h1
              obtain ⟨a2, b2, c2⟩ := List.mem_map.mp h2
              have := inj a1 b1 a2 b2 (by rw [c1, c2]; exact e)
              rw [← c1, ← c2, this]
          · rw [if_neg mv] at hw
            cases hw
        · rw [valV_ads] at hw
          have mv : v ∉ g.map (·.1) := fun z => by rw [if_pos z] at hw; cases hw
          have ag : addG g v q.1 = g ++ [(v, [q.1])] := by
            unfold addG putD
            rw [if_neg mv, valD_none.mpr mv]
            rfl
          have gl : G3 l = none := lp.st.sub.non hl0
          have l01 : H01 l = none := lp.st.keep.free hl0
          have olne : ∀ p ∈ g, ads p.1 ≠ l := fun p hp z => by have := (ol p hp).1.at_; rw [z, hl0] at this; cases this
          let ads' : Str → Addr := fun s => if s = v then l else ads s
          have adsg : ∀ p ∈ g, ads' p.1 = ads p.1 := fun p hp => by
            show (if p.1 = v then l else ads p.1) = _
            rw [if_neg fun z => mv (List.mem_map.mpr ⟨p, hp, z⟩)]
          have kv' : putK (g.map fun q => ((Sum.inr q.1 : Key), V.ref (ads q.1))) (Sum.inr v) (V.ref l) = (g ++ [(v, [q.1])]).map fun q => (Sum.inr q.1, V.ref (ads' q.1)) := by
            rw [putK_new _ (by rw [valV_ads, if_neg mv]), List.map_append]
            refine congr (congrArg _ (List.map_congr_left fun p hp => by rw [adsg p hp])) ?_
            show _ = [(_, V.ref (if v = v then l else _))]
            rw [if_pos rfl]
          have om5 : Own H01 G3 m (upd H5 m (.dK (putK (g.map fun q => ((Sum.inr q.1 : Key), V.ref (ads q.1))) (Sum.inr v) (V.ref l)))) _ := (om.grow e5).write
          have lp5 := (lp.grow e5).write (u := .dK (putK (g.map fun q => ((Sum.inr q.1 : Key), V.ref (ads q.1))) (Sum.inr v) (V.ref l))) (om.grow e5) (by simp)
          have ol5 : Own H01 G3 l (upd H5 m (.dK (putK (g.map fun q => ((Sum.inr q.1 : Key), V.ref (ads q.1))) (Sum.inr v) (V.ref l)))) (.lst []) := ⟨l01, gl, by rw [upd_ne lm]; exact hl5⟩
          refine ⟨G3, (lp5.grow e6).write (ol5.grow e6) (by simp), ⟨_, rfl⟩, eG, ads', ?_⟩
          rw [hg', ag]
          refine ⟨?_, fun p hp => ?_, fun p hp p' hp' e => ?_⟩
          · rw [← kv']
            exact (om5.grow e6).other (fun z => lm z.symm)
          · rcases List.mem_append.mp hp with hp | hp
            · rw [adsg p hp]
              exact ⟨((((ol p hp).1.grow e5).other (ol p hp).2).grow e6).other (olne p hp), (ol p hp).2⟩
            · rw [List.mem_singleton] at hp
              subst hp
              show Own H01 G3 (if v = v then l else _) _ _ ∧ (if v = v then l else _) ≠ m
              rw [if_pos rfl]
              exact ⟨(ol5.grow e6).write, lm⟩
          · rcases List.mem_append.mp hp with hp | hp <;> rcases List.mem_append.mp hp' with hp' | hp'
            · rw [adsg p hp, adsg p' hp'] at e
              exact inj p hp p' hp' e
            · rw [List.mem_singleton] at hp'
              subst hp'
              rw [adsg p hp] at e
              have e : ads p.1 = (if v = v then l else _) := e
              rw [if_pos rfl] at e
              exact absurd e (olne p hp)
            · rw [List.mem_singleton] at hp
              subst hp
              rw [adsg p' hp'] at e
              have e : (if v = v then l else _) = ads p'.1 := e
              rw [if_pos rfl] at e
              exact absurd e.symm (olne p' hp')
            · rw [List.mem_singleton] at hp hp'
              rw [hp, hp']
    · cases x with
      | some v => simp [ov] at hx
      | none =>
        refine ⟨G3, lp.grow e4, ⟨_, rfl⟩, eG, ads, ?_⟩
        have hg' : grpOf (tgOf ((srtD (tOf R t)).take (j + 1)) f) = grpOf (tgOf ((srtD (tOf R t)).take j) f) := by rw [tk, grpOf_snoc]
        rw [hg']
        exact ⟨om.grow e4, fun p hp => ⟨(ol p hp).1.grow e4, (ol p hp).2⟩, inj⟩
  · obtain ⟨⟨v5, rfl⟩, eG, ads, om, ol, inj⟩ := iv
    rw [List.take_length] at om ol inj
    obtain ⟨gs1, gs2, gs3⟩ := grp_small (tgOf (srtD (tOf R t)) f)
    have tlen : (tgOf (srtD (tOf R t)) f).length ≤ 10 := by unfold tgOf; rw [List.length_map]; omega
    refine nxE _ G3 H3 lp fun H4 st4 he4 => ?_
    have shr : shareD R t f = sortP (pairsG (grpOf (tgOf (srtD (tOf R t)) f))) := rfl
    generalize hg : grpOf (tgOf (srtD (tOf R t)) f) = g at om ol inj gs1 gs2 gs3 shr
    have nrd : ∀ b, G3 b = none → b ≠ rd := fun b hb z => by rw [z, eG _ _ hrd] at hb; cases hb
    have m4 : H4 m = some (.dK (g.map fun q => (Sum.inr q.1, V.ref (ads q.1)))) := by rw [he4 m mrd]; exact om.at_
    have l4 : ∀ q ∈ g, H4 (ads q.1) = some (sL q.2) := fun q hq => by rw [he4 _ (nrd _ (ol q hq).1.g)]; exact (ol q hq).1.at_
    let M : List Addr := m :: g.map fun q => ads q.1
    have hM : ∀ b ∈ M, H b = none ∧ G3 b = none := fun b hb => by
      rcases List.mem_cons.mp hb with rfl | hb
      · exact ⟨hm0, om.g⟩
      · obtain ⟨q, hq, rfl⟩ := List.mem_map.mp hb
        exact ⟨(hn _).mp (ol q hq).1.h0, (ol q hq).1.g⟩
    have st5 := st4.tels hM
    have t1 : tel G3 H4 M m = some (.dK (g.map fun q => (Sum.inr q.1, V.ref (ads q.1)))) := by rw [tel_in List.mem_cons_self]; exact m4
    have t2 : ∀ q ∈ g, tel G3 H4 M (ads q.1) = some (sL q.2) := fun q hq => by rw [tel_in (List.mem_cons_of_mem _ (List.mem_map.mpr ⟨q, hq, rfl⟩))]; exact l4 q hq
    have sz : (g.flatMap (fl3 (fun q : Str × List Str => q.2) (fun q _ => q.2) (fun _ a b => decide (a.cps.toList < b.cps.toList)) fun _ a b => [a, b])).length ≤ 100000 := by
      rw [List.length_flatMap]
      have inner : ∀ q ∈ g, (fl3 (fun q : Str × List Str => q.2) (fun q _ => q.2) (fun _ a b => decide (a.cps.toList < b.cps.toList)) (fun _ a b => [a, b]) q).length ≤ 100 := fun q hq => by
        unfold fl3
        rw [List.length_flatMap]
        have q10 : q.2.length ≤ 10 := Nat.le_trans (gs3 q hq) tlen
        have : ∀ l : List Str, (l.map fun a => ((q.2.filter fun b => decide (a.cps.toList < b.cps.toList)).map fun b => [a, b]).length).sum ≤ 10 * l.length := by
          intro l
          induction l with
          | nil => simp
          | cons a l ih =>
            rw [List.map_cons, List.sum_cons, List.length_map, List.length_cons]
            have := List.length_filter_le (fun b => decide (a.cps.toList < b.cps.toList)) q.2
            omega
        exact Nat.le_trans (this q.2) (by omega)
      have : ∀ l : Grp, (∀ q ∈ l, q ∈ g) → (l.map fun q => (fl3 (fun q : Str × List Str => q.2) (fun q _ => q.2) (fun _ a b => decide (a.cps.toList < b.cps.toList)) (fun _ a b => [a, b]) q).length).sum ≤ 100 * l.length := by
        intro l
        induction l with
        | nil => intro _; simp
        | cons q l ih =>
          intro hl
          have h1 := inner q (hl q List.mem_cons_self)
          have h2 := ih fun x hx => hl x (List.mem_cons_of_mem _ hx)
          rw [List.map_cons, List.sum_cons, List.length_cons]
          omega
      have := this g fun _ h => h
      have : g.length ≤ 10 := Nat.le_trans gs2 tlen
      omega
    dsimp only
    refine s_retX st5.sub (ge_sortedU (ge_gm (gm_lk t1 (gm_lc3 (α := List Str) (Pre := Lk m (g.map fun q => (Sum.inr q.1, V.ref (ads q.1)))) (ds := g) (es := fun q => q.2) (fs := fun q _ => q.2) (up := upN 8 fun q => .ref (ads q.1)) (up1 := fun _ => upN 6 V.str) (up2 := fun _ _ => upN 7 V.str) (pf := fun _ a b => decide (a.cps.toList < b.cps.toList)) (fun x v G' => TupA v x G') (fun a v G1 G2 e r => tup_mono _ _ _ _ e r) (fun _ a b => [a, b])
      (gi_vals (kf := fun q : Str × List Str => ((Sum.inr q.1 : Key), V.ref (ads q.1))) (gv_var rfl) rfl) (fun q hq G' e => gi_list (emb := V.str) (gv_var rfl) (e _ _ (t2 q hq))) (fun q hq a ha G' e => gi_list (emb := V.str) (gv_var rfl) (e _ _ (t2 q hq))) sz (fun _ _ => rfl) (fun _ _ _ _ => rfl) (fun _ _ _ _ _ _ => rfl)
      (fun q hq a ha b hb G' e => gt_test (gv_op (x := .str a) (y := .str b) (gv_var rfl) (gv_var rfl) fun H s Q q => ⟨a, b, rfl, rfl, q H (Same.refl H)⟩)) (fun q hq a ha b hb _ G' e => (gu_tup (ga_cons (gv_var (v := .str a) rfl) (ga_cons (gv_var (v := .str b) rfl) ga_nil)) (few rfl)).gm.told.imp fun v G'' e' h => ?_) (fun H H' e c => Same.lk e c) fun H p xs ys hp c => ?_)) fun p o G' e gp hx => ?_)) fun v G' H' st f => k v G' H' ?_ f
    · obtain ⟨p, o, G1, rfl, hp, ⟨rfl, _⟩, rfl⟩ := h
      exact ⟨p, rfl, upd_same⟩
    · obtain ⟨ob, c⟩ := c
      exact ⟨ob, by rw [upd_ne fun z => by rw [← z, c] at hp; cases hp]; exact c⟩
    · obtain ⟨xs, rfl, al⟩ := hx
      refine ⟨pairsG g, ⟨p, xs, rfl, upd_same, ?_⟩, fun x hx => ?_, fun v2 G2 e2 h2 => ?_⟩
      · have hq : g.flatMap (fl3 (fun q : Str × List Str => q.2) (fun q _ => q.2) (fun _ a b => decide (a.cps.toList < b.cps.toList)) fun _ a b => [a, b]) = pairsG g := rfl
        rw [hq] at al
        exact all2_swap (al.imp fun a b _ _ r => tup_mono _ _ _ _ (Same.put gp) r)
      · unfold pairsG at hx
        obtain ⟨q, _, hx⟩ := List.mem_flatMap.mp hx
        obtain ⟨a, _, hx⟩ := List.mem_flatMap.mp hx
        obtain ⟨b, _, rfl⟩ := List.mem_map.mp hx
        simp
      · rw [← shr] at h2
        exact h2
    · exact st5.trans st
end
end K25

/-! F15 -/
namespace K25
open PySem PySem.Spec PyProof.Rows L2
theorem tsIn_of {fs : Flds} {ts : List Tst} {r : Row} (h : TsOk fs ts) (c : r.map (·.1) = fs.map (·.1)) : TsIn r ts := by
  refine ⟨h.1, fun t ht => ⟨?_, (h.2 t ht).2⟩⟩
  have h2 := (h.2 t ht).1
  clear ht
  induction t with
  | is f ws => obtain ⟨us, e, _⟩ := h2; show f ∈ r.map (·.1); rw [c]; exact List.mem_map.mpr ⟨_, valD_mem e, rfl⟩
  | non f => obtain ⟨g, e, _⟩ := h2; show f ∈ r.map (·.1); rw [c]; exact List.mem_map.mpr ⟨_, valD_mem e, rfl⟩
  | not t ih => exact ih h2
/-- where a link leads -/
def linkTo (tb : Tbs) (t f : Str) : Str := match (valD tb t).bind fun fs => valD fs f with
  | some (.link u) => u
  | _ => ""
theorem linkTo_eq {tb : Tbs} {t f u : Str} {fs : Flds} (h1 : valD tb t = some fs) (h2 : valD fs f = some (.link u)) : linkTo tb t f = u := by
  unfold linkTo
  rw [h1]
  show (match valD fs f with | some (.link u) => u | _ => "") = u
  rw [h2]
def keptB (tb : Tbs) (R : Rws) (t f : Str) (ts th : List Tst) (r : Row) : Bool := match (valD r f).join with
  | none => true
  | some x => !evTs r ts || (match valD (tOf R (linkTo tb t f)) x with
    | some r2 => evTs r2 th
    | none => false)
def spotsD (tb : Tbs) (R : Rws) : Rul → List (List Str)
  | .uniq _ t f => shareD R t f
  | .some _ t ts => if (srtD (tOf R t)).any fun q => evTs q.2 ts then [] else [[]]
  | .check _ t ts => ((srtD (tOf R t)).filter fun q => !evTs q.2 ts).map fun q => [q.1]
  | .link _ t f ts th => ((srtD (tOf R t)).filter fun q => !keptB tb R t f ts th q.2).map fun q => [q.1, ((valD q.2 f).join).getD ""]
section
variable {K : PySem.W.Frag} {σ : L2.St} {G H : Hp} {te : TE} {tr : TA} {z x y u : V} {vs dvs : List V} {D : Ends} {rest : TS} {Pre : Hp → Prop} {Φ : V → Hp → Prop} {a C dx : Addr} {fs : List (Str × V)}
theorem gv_callN {mk : HO} {sp : Sp} {E : XK} (h : Gn mk te σ G) (hr : ∀ q, G q = none → Ga tr σ (upd G q mk) vs) (hs : ∀ q, G q = none → Sv sp (.ref q :: (vs ++ dvs)) (upd G q mk) z) : Gv (tCall sp dvs E (tCons te tr)) σ G z := fun H s Q q =>
  h H s _ fun p H1 e1 hp h1 => hr p (s.non hp) H1 ((s.same e1).put h1) _ fun H2 e2 => hs p (s.non hp) H2 (((s.same e1).put h1).same e2) Q E fun H3 e3 => q H3 ((e1.trans e2).trans e3)
theorem q_threeN {i j l : Nat} (s : Sub G H) (h : Gu te σ G [x, y, u]) (k : ∀ H', Same H H' → rest D (((σ.set i (some x)).set j (some y)).set l (some u)) H') : tSeq (tAsg te (gTup K 3 (gCons (gName i) (gCons (gName j) (gCons (gName l) gNil))))) rest D σ H :=
  h H s _ fun p H1 e1 hp h1 => ⟨p, [x, y, u], rfl, SqT.of h1, rfl, _, _, rfl, _, _, rfl, _, _, rfl, rfl, k H1 e1⟩
end
section
variable {P : Program} {w : World} {K : PySem.W.Frag} {mg : Str → Option Value} {base : Heap}
theorem gv_sch (T : Tx K mg) {G : Hp} {σ : L2.St} {te : TE} {a s k : Addr} {tb : Tbs} {R : Rws} {ad : Str → Addr} (hT : TabX (He.ga K "Tables") G G a s tb R k ad) (h : Gv te σ G (.ref a)) : Gv (tProp (He.ga K "Tables") (spProp (He.ga K "Tables")) [] E0 te) σ G (.ref s) :=
  let ⟨dx, i⟩ := hT.ins; gv_prop h i fun H sb Q E q => ⟨a, s, k, dx, G, rfl, sb, i, q⟩
def spKept (CS CT : Addr) : Sp := fun vs H Q _ => ∃ a rv b n t f ts th r fs s tb rs R k ad G, vs = [.ref a, rv, .ref b] ∧ Sub G H ∧ TabX CT G G a s tb R k ad ∧ SchAt CS G s tb rs ∧ RwOk tb R ∧ TbsOk tb ∧ RulV rv (.link n t f ts th) G ∧ RulOk tb (.link n t f ts th) ∧ valD tb t = some fs ∧ G b = some (.dK (rowK r)) ∧ RowC fs r ∧
  ∀ H', Same H H' → Q (.bl (keptB tb R t f ts th r)) H'
abbrev N_is_kept_by : List Str := ["tables", "rule", "row", "field", "tests", "there", "far"]
theorem sc_is_kept_by : FnScope N_is_kept_by ["tables", "rule", "row"] (defScope s_is_kept_by) := ⟨rfl, rfl, rfl, by decide +kernel, rfl, by decide +kernel, by decide +kernel⟩
-- slots: 0 tables, 1 rule, 2 row, 3 field, 4 tests, 5 there, 6 far
theorem c_is_kept_by (T : Tx K mg) : Cal P w K mg base 6 "is_kept_by" (spKept (He.ga K "Schema") (He.ga K "Tables")) := by
  refine ⟨_, _, ["tables", "rule", "row"], fn_body T.f_is_kept_by sc_is_kept_by (fun vs H Q E h => by obtain ⟨_, _, _, _, _, _, _, _, _, _, _, _, _, _, _, _, _, rfl, _⟩ := h; rfl) (fun cdv A outer s H vs Q E hr h => ?_), T.g_is_kept_by, T.f_is_kept_by.kp, T.f_is_kept_by.bindsN fun _ _ _ _ _ _ us hl => match us, hl with | [_, _, _], _ => rfl⟩
  obtain ⟨a, rv, b, n, t, f, ts, th, r, fs, s', tb, rs, R, kk, ad, G, rfl, sG, hT, hS, oR, oT, hV, oV, e1, hb, oC, k⟩ := h
  have hu := hu_of hr
  refine ⟨_,
    (pss_cons (ps_asg (pe_slice (sl_tupK rfl) (pv 1) (po_some pe_int) po_none) (pg_tupK (n := 3) rfl rfl (pgs_cons (pg_name (i := 3) sc_is_kept_by.nd rfl (Or.inl rfl)) (pgs_cons (pg_name (i := 4) sc_is_kept_by.nd rfl (Or.inl rfl)) (pgs_cons (pg_name (i := 5) sc_is_kept_by.nd rfl (Or.inl rfl)) pgs_nil)))))
    (pss_cons (ps_if (PW.pt (pw_or (pt_cmpR op_isN (pe_dget hu (pv 2) (pv 3) (fun _ _ => rfl)) pe_non (nomark _)) (pw_or1 (pt_not (pt_val (pe_cal (c_meets T) hr (by decide) rfl (pa_cons (pv 2) (pa_cons (pv 4) pa_nil))))))))
      (pss_one (ps_ret pe_bl))
      pss_nil)
    (pss_cons (ps_set (i := 6) sc_is_kept_by.nd rfl (Or.inl rfl) (pe_met (c_Schema_leads_to T) hr (by decide) (pe_propR (c_Tables_schema T) hr (by decide) (pv 0) rfl) (pa_cons (pe_ix (ix_tupK rfl) (pv 1) pe_int (fun _ _ => rfl)) (pa_cons (pv 3) pa_nil))))
    (pss_one (ps_ret (pe_and (pe_met (c_Tables_has_row T) hr (by decide) (pv 0) (pa_cons (pv 6) (pa_cons (pe_dget hu (pv 2) (pv 3) (fun _ _ => rfl)) pa_nil))) (pe_one (pe_cal (c_meets T) hr (by decide) rfl (pa_cons (ix_own (c_Tables_getitem T) hr (by decide) T.fn_getitem (pv 0) (pe_tup (pa_cons (pv 6) (pa_cons (pe_dget hu (pv 2) (pv 3) (fun _ _ => rfl)) pa_nil)))) (pa_cons (pv 5) pa_nil)))))))))), ?_⟩
  obtain ⟨p, u1, u2, rfl, hp, hts, hth⟩ := hV
  obtain ⟨fs', u, gs, o1, o2, o3, o4, o5⟩ := oV
  rw [e1] at o1
  cases o1
  have hu' : u ∈ tb.map (·.1) := List.mem_map.mpr ⟨_, valD_mem o3, rfl⟩
  have hfm : f ∈ r.map (·.1) := by rw [oC.ks]; exact List.mem_map.mpr ⟨_, valD_mem o2, rfl⟩
  obtain ⟨x, ex⟩ := valD_in hfm
  have lk := linkTo_eq e1 o2
  obtain ⟨dx, hi⟩ := id hT.ins
  obtain ⟨ds, d, l, hs, _⟩ := id hS
  have rf : ∀ {σ : L2.St}, σ[2]? = some (some (.ref b)) → σ[3]? = some (some (.str f)) → Gv (tDGet (tVar 2) (tVar 3)) σ G (ov x) := fun h2 h3 => gv_dget (k := Sum.inr f) (gv_var h2) (gv_var h3) hb (by rw [rowK_val, ex]; rfl)
  obtain ⟨b1, rfl, hts'⟩ := id hts
  obtain ⟨b2, rfl, hth'⟩ := id hth
  refine q_threeN sG (gu_slT (ys := [.str f, .ref b1, .ref b2]) (gv_var rfl) hp to_int to_none (show ¬ (HT.sIx 6 0 (some 3) = 0 ∧ HT.sIx 6 6 none = 6) by decide) rfl) fun H1 s1 => ?_
  replace sG := sG.same s1
  refine q_if sG (gt_or (gt_test (gv_op (rf rfl rfl) gv_c rv_isN)) fun hn => gt_not (gt_B (gv_call (ga_cons (gv_var rfl) (ga_cons (gv_var rfl) ga_nil)) (sv_meets hb hts (tsIn_of o4 oC.ks))))) (fun hc H2 s2 => ?_) fun hc H2 s2 => ?_
  · refine s_ret (sG.same s2) gv_c fun H3 s3 => ?_
    have : keptB tb R t f ts th r = true := by
      unfold keptB
      rw [ex]
      cases x with
      | none => rfl
      | some i =>
        simp [ov] at hc
        show (!evTs r ts || _) = true
        rw [hc]; rfl
    have kk' := k H3 ((s1.trans s2).trans s3)
    rw [this] at kk'
    exact kk'
  · cases x with
    | none => simp [ov] at hc
    | some i =>
      simp [ov] at hc
      replace sG := sG.same s2
      have kq : keptB tb R t f ts th r = (match valD (tOf R u) i with | some r2 => evTs r2 th | none => false) := by
        unfold keptB
        rw [ex, lk]
        show (!evTs r ts || _) = _
        rw [hc]; rfl
      refine q_set sG (gv_meth (gv_sch T hT (gv_var rfl)) hs rfl (ga_cons (gv_op (gv_var rfl) gv_c (rv_ixT hp rfl)) (ga_cons (gv_var rfl) ga_nil)) (sv_leads hS e1 o2)) fun H3 s3 => ?_
      replace sG := sG.same s3
      have sx := (s1.trans s2).trans s3
      have h1 : Gv (tMeth (He.ga K "Tables") "has_row" (spHasRow (He.ga K "Tables")) [] E0 (tVar 0) (tCons (tVar 6) (tCons (tDGet (tVar 2) (tVar 3)) tNil))) [some (.ref a), some (.ref p), some (.ref b), some (.str f), some (.ref b1), some (.ref b2), some (.str u)] G (.bl (hasR R u (some i))) := gv_meth (gv_var rfl) hi rfl (ga_cons (gv_var rfl) (ga_cons (rf rfl rfl) ga_nil)) (sv_hasRow hT hu')
      cases e4 : valD (tOf R u) i with
      | none =>
        have hf : hasR R u (some i) = false := decide_eq_false fun z => by
          have := (valD_none (l := tOf R u) (k := i)).mp e4
          exact this z
        refine s_ret sG (gv_eq ?_ (gv_andV (c := true) h1 fun z => by rw [hf] at z; cases z)) fun H4 s4 => k H4 (sx.trans s4)
        rw [hf, kq, e4]; rfl
      | some r2 =>
        have hf : hasR R u (some i) = true := decide_eq_true (List.mem_map.mpr ⟨_, valD_mem e4, rfl⟩)
        obtain ⟨gs', e5, oC2⟩ := oR.row (valD_mem e4)
        rw [o3] at e5
        cases e5
        refine s_ret sG (gv_eq ?_ (gv_andV h1 fun _ => gv_callN (vs := [.ref b2]) (gn_opN2 (m2 := .dK (rowK r2)) (mk := .tup [.str u, .str i]) (gv_var rfl) (gu_tup (ga_cons (gv_var rfl) (ga_cons (rf rfl rfl) ga_nil)) (few rfl)) fun q hq H sb Q k' => ⟨a, dx, _, rfl, sb.ins (Same.put hq _ _ hi), a, q, u, i, r2, s', tb, R, kk, ad, upd G q (.tup [.str u, .str i]), rfl, sb, upd_same, hT.mono (Same.put hq) fun _ _ _ h => Same.put hq _ _ h, hu', e4, k'⟩) (fun q hq => ga_cons (gv_var rfl) ga_nil) fun q hq => sv_meets upd_same (ts_mono _ _ _ _ (Same.put hq) hth) (tsIn_of o5 oC2.ks))) fun H4 s4 => k H4 (sx.trans s4)
        rw [hf, kq, e4]; rfl
end
end K25

/-! F16 -/
namespace K25
open PySem PySem.Spec PyProof.Rows L2
section
variable {P : Program} {w : World} {K : PySem.W.Frag} {mg : Str → Option Value} {base : Heap}
/-- the pairs of rows of a table -/
theorem rws_both {G : Hp} {kvs : List (Key × V)} {l : List (Str × Row)} (h : PrD RowV G kvs l) : ∀ q ∈ kvs.zip l, q.2 ∈ l ∧ ∃ ra, q.1.2 = .ref ra ∧ G ra = some (.dK (rowK q.2.2)) := fun q hq => ⟨(h.both.2.2 q hq).2.1, (h.both.2.2 q hq).2.2.2⟩
theorem zip_filter {α β : Type} {l : List α} {m : List β} (e : m = (l.zip m).map (·.2)) (p : β → Bool) : ((l.zip m).filter fun q => p q.2).map (·.2) = m.filter p := by
  conv => rhs; rw [e]
  rw [List.filter_map]
  rfl
def spSpots (CS CT : Addr) : Sp := fun vs H Q _ => ∃ a r s tb rs R k ad G, vs = [.ref a, .str (Rul.name r)] ∧ Sub G H ∧ TabX CT G G a s tb R k ad ∧ SchAt CS G s tb rs ∧ RwOk tb R ∧ TbsOk tb ∧ rs.length ≤ 4 ∧ (rs.map Rul.name).Nodup ∧ r ∈ rs ∧ RulOk tb r ∧
  ∀ v G' H', Stp G H G' H' → TusV v (spotsD tb R r) G' → Q v H'
theorem sx_spots {CS CT : Addr} {G : Hp} {a s k : Addr} {tb : Tbs} {rs : List Rul} {R : Rws} {ad : Str → Addr} {r : Rul} (hT : TabX CT G G a s tb R k ad) (hS : SchAt CS G s tb rs) (oR : RwOk tb R) (oT : TbsOk tb) (hl : rs.length ≤ 4) (nd : (rs.map Rul.name).Nodup) (hr : r ∈ rs) (ok : RulOk tb r) :
    Sx (spSpots CS CT) [.ref a, .str r.name] G fun v G' => TusV v (spotsD tb R r) G' := fun H sb Q E q => ⟨a, r, s, tb, rs, R, k, ad, G, rfl, sb, hT, hS, oR, oT, hl, nd, hr, ok, q⟩
abbrev N_spots : List Str := ["tables", "name", "rule", "rows", "row", "ident"]
theorem sc_spots : FnScope N_spots ["tables", "name"] (defScope s_spots) := ⟨rfl, rfl, rfl, by decide +kernel, rfl, by decide +kernel, by decide +kernel⟩
-- slots: 0 tables*, 1 name, 2 rule*, 3 rows, 4 row, 5 ident
theorem c_spots (T : Tx K mg) : Cal P w K mg base 9 "spots" (spSpots (He.ga K "Schema") (He.ga K "Tables")) := by
  refine ⟨_, _, ["tables", "name"], fn_body T.f_spots sc_spots (fun vs H Q E h => by obtain ⟨_, _, _, _, _, _, _, _, _, rfl, _⟩ := h; rfl) (fun cdv A outer s H vs Q E hr h => ?_), T.g_spots, T.f_spots.kp, T.f_spots.bindsN fun _ _ _ _ _ _ us hl => match us, hl with | [_, _], _ => rfl⟩
  obtain ⟨a, r, s', tb, rs, R, kk, ad, G, rfl, sG, hT, hS, oR, oT, rl, rnd, hrm, ok, k⟩ := h
  have hu := hu_of hr
  refine ⟨_,
    (pss_cons (ps_set (i := 2) sc_spots.nd rfl (Or.inr rfl) (pe_met (c_Schema_rule_of T) hr (by decide) (pe_propR (c_Tables_schema T) hr (by decide) (pv 0) rfl) (pa_cons (pv 1) pa_nil)))
    (pss_cons (ps_if (pt_cmpR op_eq (pe_ix (ix_tupK rfl) (pv 2) pe_int (fun _ _ => rfl)) pe_str (nomark _))
      (pss_one (ps_ret (pe_cal (c_sharing T) hr (by decide) rfl (pa_cons (pv 0) (pa_cons (pe_ix (ix_tupK rfl) (pv 2) pe_int (fun _ _ => rfl)) (pa_cons (pe_ix (ix_tupK rfl) (pv 2) pe_int (fun _ _ => rfl)) pa_nil))))))
      pss_nil)
    (pss_cons (ps_set (i := 3) sc_spots.nd rfl (Or.inl rfl) (pe_met (c_Tables_rows T) hr (by decide) (pv 0) (pa_cons (pe_ix (ix_tupK rfl) (pv 2) pe_int (fun _ _ => rfl)) pa_nil)))
    (pss_cons (ps_if (pt_cmpR op_eq (pe_ix (ix_tupK rfl) (pv 2) pe_int (fun _ _ => rfl)) pe_str (nomark _))
      (pss_one (ps_ret (pe_ifExp (pt_val (pe_callB (cr_anyK rfl rfl) (by rfl) T.b_any (by decide +kernel) (pa_cons (pe_lk (pe_lc rfl sc_spots.nd (pi_values (pv 3)) (blkOk_by (own := [("row", 4)]) (N := N_spots) (sc := defScope s_spots) (by decide +kernel)) (fun _ _ _ _ _ => (pg_name (i := 4) sc_spots.nd rfl (Or.inl rfl))) (fun _ _ _ _ _ => pts_nil) (fun _ _ _ _ _ => (pe_cal (c_meets T) hr (by decide) rfl (pa_cons (pv 4) (pa_cons (pe_ix (ix_tupK rfl) (pv 2) pe_int (fun _ _ => rfl)) pa_nil)))))) pa_nil))) (pe_lst pa_nil) (pe_lst (pa_cons (pe_tup pa_nil) pa_nil)))))
      pss_nil)
    (pss_cons (ps_if (pt_cmpR op_eq (pe_ix (ix_tupK rfl) (pv 2) pe_int (fun _ _ => rfl)) pe_str (nomark _))
      (pss_one (ps_ret (pe_lk (pe_lc rfl sc_spots.nd (pi_items (pv 3)) (blkOk_by (own := [("ident", 5), ("row", 4)]) (N := N_spots) (sc := defScope s_spots) (by decide +kernel)) (fun _ _ _ _ _ => (pg_tupK (n := 2) rfl rfl (pgs_cons (pg_name (i := 5) sc_spots.nd rfl (Or.inl rfl)) (pgs_cons (pg_name (i := 4) sc_spots.nd rfl (Or.inl rfl)) pgs_nil)))) (fun _ _ _ _ _ => (pts_one (pt_not (pt_val (pe_cal (c_meets T) hr (by decide) rfl (pa_cons (pv 4) (pa_cons (pe_ix (ix_tupK rfl) (pv 2) pe_int (fun _ _ => rfl)) pa_nil))))))) (fun _ _ _ _ _ => (pe_tup (pa_cons (pv 5) pa_nil)))))))
      pss_nil)
    (pss_one (ps_ret (pe_lk (pe_lc rfl sc_spots.nd (pi_items (pv 3)) (blkOk_by (own := [("ident", 5), ("row", 4)]) (N := N_spots) (sc := defScope s_spots) (by decide +kernel)) (fun _ _ _ _ _ => (pg_tupK (n := 2) rfl rfl (pgs_cons (pg_name (i := 5) sc_spots.nd rfl (Or.inl rfl)) (pgs_cons (pg_name (i := 4) sc_spots.nd rfl (Or.inl rfl)) pgs_nil)))) (fun _ _ _ _ _ => (pts_one (pt_not (pt_val (pe_cal (c_is_kept_by T) hr (by decide) rfl (pa_cons (pv 0) (pa_cons (pv 2) (pa_cons (pv 4) pa_nil)))))))) (fun _ _ _ _ _ => (pe_tup (pa_cons (pv 5) (pa_cons (pe_dget hu (pv 4) (pe_ix (ix_tupK rfl) (pv 2) pe_int (fun _ _ => rfl)) (fun _ _ => rfl)) pa_nil))))))))))))), ?_⟩
  obtain ⟨ds, d, l, hs, _⟩ := id hS
  refine q_setX sG (ge_meth (gv_sch T hT (gv_var rfl)) hs rfl (ga_cons (gv_var rfl) ga_nil) fun H sb Q E q => ⟨s', tb, rs, r, G, rfl, sb, hS, rl, rnd, hrm, ok.dp, q⟩) fun rv G1 H1 st1 hV => ?_
  replace hT := hT.mono st1.ex fun _ _ _ h => st1.ex _ _ h
  replace hS := hS.mono st1.ex
  obtain ⟨p, x, xs, rfl, hp⟩ := hV.any
  obtain ⟨fs, e1⟩ := ok.tab
  have ht : r.tab ∈ tb.map (·.1) := List.mem_map.mpr ⟨_, valD_mem e1, rfl⟩
  obtain ⟨dx, hi⟩ := id hT.ins
  have ix : ∀ {σ : L2.St} {G' : Hp} (i : Nat) {y : V}, Same G1 G' → (V.str r.name :: V.str r.kind :: V.str r.tab :: x :: xs)[i]? = some y → σ[2]? = some (some (.ref p)) → Gv (tOp (rIxT K) (tVar 2) (tC (.int (i : Nat)))) σ G' y := fun i y e hy h => gv_op (gv_var h) gv_c (rv_ixT (e _ _ hp) (atN hy))
  have eqK : ∀ {σ : L2.St} {G' : Hp} (s : Str), Same G1 G' → σ[2]? = some (some (.ref p)) → Gt (tTest (tOp rEq (tOp (rIxT K) (tVar 2) (tC (.int 1))) (tC (.str s)))) σ G' (decide (r.kind = s)) := fun s e h => gt_test (gv_eq (by simp) (gv_op (ix 1 e rfl h) gv_c (rv_eq rfl)))
  cases r with
  | uniq n t f =>
    obtain ⟨a', e, g1⟩ := hV
    cases e
    have ee := hp.symm.trans g1
    simp only [Option.some.injEq, HO.tup.injEq, List.cons.injEq] at ee
    obtain ⟨_, _, _, rfl, rfl⟩ := ee
    obtain ⟨fs', o1, o2⟩ := ok
    refine q_yes st1.sub (gt_eq (by rfl) (eqK "unique" (Same.refl _) rfl)) fun H2 s2 => ?_
    exact s_retX (st1.sub.same s2) (ge_call (ga_cons (gv_var rfl) (ga_cons (ix 2 (Same.refl _) rfl rfl) (ga_cons (ix 3 (Same.refl _) rfl rfl) ga_nil))) fun H sb Q E q => ⟨a, t, f, s', tb, R, kk, ad, fs', G1, rfl, sb, hT, oR, oT, o1, List.mem_map.mpr ⟨_, valD_mem o2, rfl⟩, q⟩) fun v G' H' st f => k v G' H' (st1.trans (st.pre s2)) f
  | some n t ts =>
    obtain ⟨a', u, e, g1, g2⟩ := hV
    cases e
    have ee := hp.symm.trans g1
    simp only [Option.some.injEq, HO.tup.injEq, List.cons.injEq] at ee
    obtain ⟨_, _, _, rfl, rfl⟩ := ee
    obtain ⟨fs', o1, o2⟩ := ok
    refine q_no st1.sub (gt_eq (by rfl) (eqK "unique" (Same.refl _) rfl)) fun H2 s2 => ?_
    replace st1 := st1.grow s2
    refine q_setX st1.sub (ge_meth (gv_var rfl) hi rfl (ga_cons (ix 2 (Same.refl _) rfl rfl) ga_nil) (sx_rows hT ht oR)) fun v G3 H3 st3 hv => ?_
    obtain ⟨rd, rkv, rfl, hrd, hrp⟩ := hv
    have st := st1.trans st3
    refine q_yes st.sub (gt_eq (by rfl) (eqK "some" st3.ex rfl)) fun H4 s4 => ?_
    replace st := st.grow s4
    have g2' := ts_mono _ _ _ _ st3.ex g2
    replace hrp : PrD RowV G3 rkv (srtD (tOf R t)) := hrp
    obtain ⟨z1, z2, z3⟩ := hrp.both
    have rb := rws_both hrp
    have lz : (rkv.zip (srtD (tOf R t))).length ≤ 10 := by rw [hrp.zipl, srtD_len]; exact Nat.le_trans (tOf_len R t) oR.len
    have anyQ : Gt (tB (tCB (rAny K) (tCons (tLk (tLc (iVals (tVar 3)) (gName 4) tYes (tCall spMeets [] E0 (tCons (tVar 4) (tCons (tOp (rIxT K) (tVar 2) (tC (.int 3))) tNil))) [4])) tNil))) [some (.ref a), some (.str n), some (.ref p), some (.ref rd), none, none] G3 ((srtD (tOf R t)).any fun q => evTs q.2 ts) := by
      refine gt_B (gv_eq ?_ (gv_any (bs := (rkv.zip (srtD (tOf R t))).map fun q => evTs q.2.2 ts) (gn_eq ?_ (gl_lcK hrd (pf := fun _ => true) (fun q => V.bl (evTs q.2.2 ts)) (gi_valsD (gv_var rfl) hrp) (by omega) (fun _ _ => rfl) (fun _ _ => gt_yes) fun q hq _ => ?_))))
      · conv => rhs; rw [z2]
        rw [List.any_map, List.any_map]
        rfl
      · rw [List.filter_eq_self.mpr (fun _ _ => rfl), List.map_map]
        rfl
      · obtain ⟨hm, ra, er, hra⟩ := rb q hq
        obtain ⟨fs2, e2, oC⟩ := oR.row (t := t) (i := q.2.1) (r := q.2.2) (srtD_mem.mp hm)
        rw [o1] at e2
        cases e2
        exact gv_call (ga_cons (gv_eq er (gv_var rfl)) (ga_cons (ix 3 st3.ex rfl rfl) ga_nil)) (sv_meets hra g2' (tsIn_of o2 oC.ks))
    refine s_retX st.sub (ge_if anyQ (fun hc => ge_gn (gl_lst ga_nil (by decide)) fun q hq => ?_) fun hc => ge_lst (gxa_cons (ge_gn (Φ := fun v G' => ∃ q, v = V.ref q ∧ G' q = some (.tup [])) (gu_tup ga_nil (by decide)) fun q hq => ⟨q, rfl, upd_same⟩) fun v G' e hv => gxa_nil ⟨few rfl, fun q hq => ?_⟩)) fun v G' H' st' f => k v G' H' (st.trans st') f
    · show TusV _ (if ((srtD (tOf R t)).any fun q => evTs q.2 ts) = true then [] else [[]]) _
      rw [if_pos hc]
      exact ⟨q, [], rfl, upd_same, .nil⟩
    · show TusV _ (if ((srtD (tOf R t)).any fun q => evTs q.2 ts) = true then [] else [[]]) _
      rw [if_neg (by rw [hc]; simp)]
      obtain ⟨q2, rfl, hq2⟩ := hv
      exact ⟨q, [.ref q2], rfl, upd_same, .cons ⟨q2, rfl, by rw [upd_ne (ne_of_none hq2 hq)]; exact hq2⟩ .nil⟩
  | check n t ts =>
    obtain ⟨a', u, e, g1, g2⟩ := hV
    cases e
    have ee := hp.symm.trans g1
    simp only [Option.some.injEq, HO.tup.injEq, List.cons.injEq] at ee
    obtain ⟨_, _, _, rfl, rfl⟩ := ee
    obtain ⟨fs', o1, o2⟩ := ok
    refine q_no st1.sub (gt_eq (by rfl) (eqK "unique" (Same.refl _) rfl)) fun H2 s2 => ?_
    replace st1 := st1.grow s2
    refine q_setX st1.sub (ge_meth (gv_var rfl) hi rfl (ga_cons (ix 2 (Same.refl _) rfl rfl) ga_nil) (sx_rows hT ht oR)) fun v G3 H3 st3 hv => ?_
    obtain ⟨rd, rkv, rfl, hrd, hrp⟩ := hv
    have st := st1.trans st3
    refine q_no st.sub (gt_eq (by rfl) (eqK "some" st3.ex rfl)) fun H4 s4 => ?_
    replace st := st.grow s4
    refine q_yes st.sub (gt_eq (by rfl) (eqK "check" st3.ex rfl)) fun H5 s5 => ?_
    replace st := st.grow s5
    have g2' := ts_mono _ _ _ _ st3.ex g2
    replace hrp : PrD RowV G3 rkv (srtD (tOf R t)) := hrp
    obtain ⟨z1, z2, z3⟩ := hrp.both
    have rb := rws_both hrp
    have lz : (rkv.zip (srtD (tOf R t))).length ≤ 10 := by rw [hrp.zipl, srtD_len]; exact Nat.le_trans (tOf_len R t) oR.len
    refine s_retX st.sub (ge_gm (gm_lk hrd (gm_lc (Pre := Lk rd rkv) (ds := rkv.zip (srtD (tOf R t))) (up := upN2 5 4 (fun q => .str q.2.1) fun q => q.1.2) (pf := fun q => !evTs q.2.2 ts) (fun q v G' => TupA v [q.2.1] G') (fun d v A B e r => tup_mono _ _ _ _ e r) (gi_itemsD (gv_var rfl) hrp) (by omega) (fun _ _ => rfl) (fun q hq G' e => ?_) (fun q hq _ G' e => (gu_tup (ga_cons (gv_var (v := .str q.2.1) rfl) ga_nil) (few rfl)).gm.told.imp fun v G'' e' h => ?_) fun H H' e c => Same.lk e c)) fun c o G' e gc hx => ?_) fun v G' H' st' f => k v G' H' (st.trans st') f
    · obtain ⟨hm, ra, er, hra⟩ := rb q hq
      obtain ⟨fs2, e2, oC⟩ := oR.row (t := t) (i := q.2.1) (r := q.2.2) (srtD_mem.mp hm)
      rw [o1] at e2
      cases e2
      exact gt_not (gt_B (gv_call (ga_cons (gv_eq er (gv_var rfl)) (ga_cons (ix 3 (st3.ex.trans e) rfl rfl) ga_nil)) (sv_meets (e _ _ hra) (ts_mono _ _ _ _ e g2') (tsIn_of o2 oC.ks))))
    · obtain ⟨p', o, G1', rfl, hp', ⟨rfl, _⟩, rfl⟩ := h
      exact ⟨p', rfl, upd_same⟩
    · obtain ⟨ys, rfl, al⟩ := hx
      refine ⟨c, ys, rfl, upd_same, ?_⟩
      have := all2_zipmap (R := fun v x => TupA v x G') (f := fun q : (Key × V) × (Str × Row) => [q.2.1]) al
      have hq : ((rkv.zip (srtD (tOf R t))).filter fun q => !evTs q.2.2 ts).map (fun q => [q.2.1]) = spotsD tb R (.check n t ts) := by
        show _ = ((srtD (tOf R t)).filter fun q => !evTs q.2 ts).map fun q => [q.1]
        rw [← zip_filter z2 fun q => !evTs q.2 ts, List.map_map]
        rfl
      rw [hq] at this
      exact this.imp fun _ _ _ _ r => tup_mono _ _ _ _ (Same.put gc) r
  | link n t f ts th =>
    have hV0 := hV
    obtain ⟨a', u, w', e, g1, g2, g3⟩ := hV
    cases e
    have ee := hp.symm.trans g1
    simp only [Option.some.injEq, HO.tup.injEq, List.cons.injEq] at ee
    obtain ⟨_, _, _, rfl, rfl⟩ := ee
    have okk := ok
    obtain ⟨fs', l', gs, o1, o2, o3, o4, o5⟩ := ok
    refine q_no st1.sub (gt_eq (by rfl) (eqK "unique" (Same.refl _) rfl)) fun H2 s2 => ?_
    replace st1 := st1.grow s2
    refine q_setX st1.sub (ge_meth (gv_var rfl) hi rfl (ga_cons (ix 2 (Same.refl _) rfl rfl) ga_nil) (sx_rows hT ht oR)) fun v G3 H3 st3 hv => ?_
    obtain ⟨rd, rkv, rfl, hrd, hrp⟩ := hv
    have st := st1.trans st3
    refine q_no st.sub (gt_eq (by rfl) (eqK "some" st3.ex rfl)) fun H4 s4 => ?_
    replace st := st.grow s4
    refine q_no st.sub (gt_eq (by rfl) (eqK "check" st3.ex rfl)) fun H5 s5 => ?_
    replace st := st.grow s5
    replace hrp : PrD RowV G3 rkv (srtD (tOf R t)) := hrp
    obtain ⟨z1, z2, z3⟩ := hrp.both
    have rb := rws_both hrp
    have lz : (rkv.zip (srtD (tOf R t))).length ≤ 10 := by rw [hrp.zipl, srtD_len]; exact Nat.le_trans (tOf_len R t) oR.len
    have rowq : ∀ q ∈ rkv.zip (srtD (tOf R t)), RowC fs' q.2.2 := fun q hq => by
      obtain ⟨hm, _⟩ := rb q hq
      obtain ⟨fs2, e2, oC⟩ := oR.row (t := t) (i := q.2.1) (r := q.2.2) (srtD_mem.mp hm)
      rw [o1] at e2
      cases e2
      exact oC
    refine s_retX st.sub (ge_gm (gm_lk hrd (gm_lc (Pre := Lk rd rkv) (ds := rkv.zip (srtD (tOf R t))) (up := upN2 5 4 (fun q => .str q.2.1) fun q => q.1.2) (pf := fun q => !keptB tb R t f ts th q.2.2) (fun q v G' => TupA v [q.2.1, ((valD q.2.2 f).join).getD ""] G') (fun d v A B e r => tup_mono _ _ _ _ e r) (gi_itemsD (gv_var rfl) hrp) (by omega) (fun _ _ => rfl) (fun q hq G' e => ?_) (fun q hq hpf G' e => ?_) fun H H' e c => Same.lk e c)) fun c o G' e gc hx => ?_) fun v G' H' st' f => k v G' H' (st.trans st') f
    · obtain ⟨hm, ra, er, hra⟩ := rb q hq
      refine gt_not (gt_B (gv_call (ga_cons (gv_var rfl) (ga_cons (gv_var rfl) (ga_cons (gv_eq er (gv_var rfl)) ga_nil))) fun H sb Q E q' => ⟨a, .ref p, ra, n, t, f, ts, th, q.2.2, fs', s', tb, rs, R, kk, ad, G', rfl, sb, hT.mono (st3.ex.trans e) fun _ _ _ h => (st3.ex.trans e) _ _ h, hS.mono (st3.ex.trans e), oR, oT, rul_mono _ _ _ _ (st3.ex.trans e) hV0, okk, o1, e _ _ hra, rowq q hq, q'⟩))
    · obtain ⟨hm, ra, er, hra⟩ := rb q hq
      have hfm : f ∈ q.2.2.map (·.1) := by rw [(rowq q hq).ks]; exact List.mem_map.mpr ⟨_, valD_mem o2, rfl⟩
      obtain ⟨x, ex⟩ := valD_in hfm
      cases x with
      | none =>
        have : keptB tb R t f ts th q.2.2 = true := by unfold keptB; rw [ex]; rfl
        rw [this] at hpf
        cases hpf
      | some i =>
        refine (gu_tup (ga_cons (gv_var (v := .str q.2.1) rfl) (ga_cons (v := .str i) (gv_dget (k := Sum.inr f) (gv_eq er (gv_var rfl)) (ix 3 (st3.ex.trans e) rfl rfl) (e _ _ hra) (by rw [rowK_val, ex]; rfl)) ga_nil)) (few rfl)).gm.told.imp fun v G'' e' h => ?_
        obtain ⟨p', o, G1', rfl, hp', ⟨rfl, _⟩, rfl⟩ := h
        rw [ex]
        exact ⟨p', rfl, upd_same⟩
    · obtain ⟨ys, rfl, al⟩ := hx
      refine ⟨c, ys, rfl, upd_same, ?_⟩
      have := all2_zipmap (R := fun v x => TupA v x G') (f := fun q : (Key × V) × (Str × Row) => [q.2.1, ((valD q.2.2 f).join).getD ""]) al
      have hq : ((rkv.zip (srtD (tOf R t))).filter fun q => !keptB tb R t f ts th q.2.2).map (fun q => [q.2.1, ((valD q.2.2 f).join).getD ("" : Str)]) = spotsD tb R (.link n t f ts th) := by
        show _ = ((srtD (tOf R t)).filter fun q => !keptB tb R t f ts th q.2).map fun q => [q.1, ((valD q.2 f).join).getD ("" : Str)]
        rw [← zip_filter z2 fun q => !keptB tb R t f ts th q.2, List.map_map]
        rfl
      rw [hq] at this
      exact this.imp fun _ _ _ _ r => tup_mono _ _ _ _ (Same.put gc) r
def spHolds (CS CT : Addr) : Sp := fun vs H Q _ => ∃ a r s tb rs R k ad G, vs = [.ref a, .str (Rul.name r)] ∧ Sub G H ∧ TabX CT G G a s tb R k ad ∧ SchAt CS G s tb rs ∧ RwOk tb R ∧ TbsOk tb ∧ rs.length ≤ 4 ∧ (rs.map Rul.name).Nodup ∧ r ∈ rs ∧ RulOk tb r ∧
  ∀ H', Same H H' → Q (.bl (spotsD tb R r).isEmpty) H'
theorem sv_holds {CS CT : Addr} {G : Hp} {a s k : Addr} {tb : Tbs} {rs : List Rul} {R : Rws} {ad : Str → Addr} {r : Rul} (hT : TabX CT G G a s tb R k ad) (hS : SchAt CS G s tb rs) (oR : RwOk tb R) (oT : TbsOk tb) (hl : rs.length ≤ 4) (nd : (rs.map Rul.name).Nodup) (hr : r ∈ rs) (ok : RulOk tb r) :
    Sv (spHolds CS CT) [.ref a, .str r.name] G (.bl (spotsD tb R r).isEmpty) := fun H sb Q E q => ⟨a, r, s, tb, rs, R, k, ad, G, rfl, sb, hT, hS, oR, oT, hl, nd, hr, ok, q⟩
/-- == of a list that grew and an empty one -/
theorem gv_eqNilX {K : PySem.W.Frag} {σ : L2.St} {G : Hp} {ta tb : TE} {neg : Bool} {b : Bool} (ha : Ge ta σ G fun v G' => ∃ p xs, v = .ref p ∧ G' p = some (.lst xs) ∧ xs.isEmpty = b) (hb : ∀ G', Gls tb σ G' []) : Gv (tOp (rEqNil K neg) ta tb) σ G (.bl (if neg then !b else b)) := fun H s Q q =>
  ha H s trivial _ fun v G1 H1 s1 f => by
    obtain ⟨p, xs, rfl, hp, rfl⟩ := f
    exact hb G1 H1 s1.sub _ fun p2 H2 e2 hp2 h2 => ⟨p, p2, xs, rfl, rfl, SqL.of (e2 _ _ (s1.sub.lst hp)), SqL.of h2, q H2 (s1.keep.trans e2)⟩
abbrev N_holds : List Str := ["tables", "name"]
theorem sc_holds : FnScope N_holds ["tables", "name"] (defScope s_holds) := ⟨rfl, rfl, rfl, by decide +kernel, rfl, by decide +kernel, by decide +kernel⟩
-- slots: 0 tables, 1 name
theorem c_holds (T : Tx K mg) : Cal P w K mg base 10 "holds" (spHolds (He.ga K "Schema") (He.ga K "Tables")) := by
  refine ⟨_, _, ["tables", "name"], fn_body T.f_holds sc_holds (fun vs H Q E h => by obtain ⟨_, _, _, _, _, _, _, _, _, rfl, _⟩ := h; rfl) (fun cdv A outer s H vs Q E hr h => ?_), T.g_holds, T.f_holds.kp, T.f_holds.bindsN fun _ _ _ _ _ _ us hl => match us, hl with | [_, _], _ => rfl⟩
  obtain ⟨a, r, s', tb, rs, R, kk, ad, G, rfl, sG, hT, hS, oR, oT, rl, rnd, hrm, ok, k⟩ := h
  have hu := hu_of hr
  refine ⟨_,
    (pss_one (ps_ret (pe_cmpR (op_eqNilK rfl hr.units) (pe_cal (c_spots T) hr (by decide) rfl (pa_cons (pv 0) (pa_cons (pv 1) pa_nil))) (pe_lst pa_nil) (nomark _)))), ?_⟩
  refine s_ret sG (gv_eqNilX (b := (spotsD tb R r).isEmpty) (neg := false) ((ge_call (ga_cons (gv_var rfl) (ga_cons (gv_var rfl) ga_nil)) (sx_spots hT hS oR oT rl rnd hrm ok)).imp fun v G' e h => ?_) fun G' => gl_lst ga_nil (by decide)) k
  obtain ⟨p, xs, rfl, hp, al⟩ := h
  refine ⟨p, xs, rfl, hp, ?_⟩
  generalize spotsD tb R r = l at al
  cases al <;> rfl
end
end K25

/-! F17 -/
namespace K25
open PySem PySem.Spec PyProof.Rows L2
/-! ### who is near -/
def tgt (tb : Tbs) (R : Rws) (t : Str) (r : Row) (f : Str) : Option Str := if hasR R (linkTo tb t f) (valD r f).join then (valD r f).join else none
def tgNames (fs : Flds) (r : Row) : List Str := (fLike fs "tag").filterMap fun f => (valD r f).join
def shares (fs : Flds) (ns : List Str) (r : Row) : Bool := (fLike fs "tag").any fun f => match (valD r f).join with
  | some s => decide (s ∈ ns)
  | none => false
def shareIds (R : Rws) (ns : List Str) (o : Str × Flds) : List (Option Str) := ((srtD (tOf R o.1)).filter fun q => shares o.2 ns q.2).map fun q => some q.1
def nbrs (tb : Tbs) (R : Rws) (fs : Flds) (t : Str) (r : Row) : List Str := (((fLike fs "link").map (tgt tb R t r)) ++ tb.flatMap (shareIds R (tgNames fs r))).filterMap id
theorem fLike_mem {fs : Flds} {so f : Str} (nd : (fs.map (·.1)).Nodup) : f ∈ fLike fs so ↔ ∃ g, valD fs f = some g ∧ g.sort = so := by
  unfold fLike
  rw [List.mem_map]
  constructor
  · rintro ⟨⟨f', g⟩, h, rfl⟩
    obtain ⟨h1, h2⟩ := List.mem_filter.mp h
    exact ⟨g, valD_of nd h1, of_decide_eq_true h2⟩
  · rintro ⟨g, h1, h2⟩
    exact ⟨(f, g), List.mem_filter.mpr ⟨valD_mem h1, decide_eq_true h2⟩, rfl⟩
theorem fLike_link {fs : Flds} {f : Str} (nd : (fs.map (·.1)).Nodup) (h : f ∈ fLike fs "link") : ∃ u, valD fs f = some (.link u) := by
  obtain ⟨g, h1, h2⟩ := (fLike_mem nd).mp h
  cases g with
  | link u => exact ⟨u, h1⟩
  | mark ws => exact absurd h2 (show ¬ (("mark" : Str) = "link") by decide)
  | tag => exact absurd h2 (show ¬ (("tag" : Str) = "link") by decide)
theorem fLike_len {fs : Flds} (h : FsOk fs) (so : Str) : (fLike fs so).length ≤ 6 := by
  unfold fLike
  rw [List.length_map]
  have := List.length_filter_le (fun f : Str × Fld => decide (f.2.sort = so)) fs
  have := h.len
  omega
section
variable {K : PySem.W.Frag} {σ : L2.St} {G H : Hp} {ta te : TE} {D : Ends} {l : Addr} {xs zs : List V}
theorem s_extendN (s : Sub G H) (ho : Gv ta σ G (.ref l)) (hv : Gls te σ G zs) (ha : H l = some (.lst xs)) (hl : xs.length + zs.length ≤ sizeLine) (k : ∀ H1, Same H H1 → D.nx σ (upd H1 l (.lst (xs ++ zs)))) : tDrop (tBM K "list" rExtend ta (tCons te tNil)) D σ H :=
  ho H s _ fun H1 e1 => ⟨.inl ⟨rfl, xs, SqL.of (e1 _ _ ha)⟩, hv H1 (s.same e1) _ fun b H2 e2 hb h2 => ⟨l, b, xs, zs, rfl, rfl, e2 _ _ (e1 _ _ ha), h2, hl, k H2 (e1.trans e2)⟩⟩
end
theorem filterMap_ov (l : List (Option Str)) : (l.filter fun x => !decide (ov x = .non)).map ov = (l.filterMap id).map V.str := by
  induction l with
  | nil => rfl
  | cons x l ih =>
    cases x with
    | none => exact ih
    | some s =>
      exact congrArg (V.str s :: ·) ih
section
variable {P : Program} {w : World} {K : PySem.W.Frag} {mg : Str → Option Value} {base : Heap}
def spNbrs (CS CT : Addr) : Sp := fun vs H Q _ => ∃ a i t r fs s tb rs R k ad G, vs = [.ref a, .str i] ∧ Sub G H ∧ TabX CT G G a s tb R k ad ∧ SchAt CS G s tb rs ∧ TbsOk tb ∧ RwOk tb R ∧ (i, (t, r)) ∈ R ∧ valD tb t = some fs ∧
  ∀ p H', Same H H' → H p = none → H' p = some (sL (nbrs tb R fs t r)) → Q (.ref p) H'
abbrev N_neighbours : List Str := ["tables", "ident", "table", "row", "found", "field", "names", "other", "fields", "rows", "one"]
theorem sc_neighbours : FnScope N_neighbours ["tables", "ident"] (defScope s_neighbours) := ⟨rfl, rfl, rfl, by decide +kernel, rfl, by decide +kernel, by decide +kernel⟩
-- slots: 0 tables*, 1 ident*, 2 table*, 3 row*, 4 found, 5 field, 6 names*, 7 other, 8 fields*, 9 rows*, 10 one
theorem c_neighbours (T : Tx K mg) : Cal P w K mg base 4 "neighbours" (spNbrs (He.ga K "Schema") (He.ga K "Tables")) := by
  refine ⟨_, _, ["tables", "ident"], fn_body T.f_neighbours sc_neighbours (fun vs H Q E h => by obtain ⟨_, _, _, _, _, _, _, _, _, _, _, _, rfl, _⟩ := h; rfl) (fun cdv A outer s H vs Q E hr h => ?_), T.g_neighbours, T.f_neighbours.kp, T.f_neighbours.bindsN fun _ _ _ _ _ _ us hl => match us, hl with | [_, _], _ => rfl⟩
  obtain ⟨a, i, t, r, fs, s', tb, rs, R, kk, ad, G, rfl, sG, hT, hS, oT, oR, him, e1, k⟩ := h
  have hu := hu_of hr
  refine ⟨_,
    (pss_cons (ps_set (i := 2) sc_neighbours.nd rfl (Or.inr rfl) (pe_met (c_Tables_table_of T) hr (by decide) (pv 0) (pa_cons (pv 1) pa_nil)))
    (pss_cons (ps_set (i := 3) sc_neighbours.nd rfl (Or.inr rfl) (ix_own (c_Tables_getitem T) hr (by decide) T.fn_getitem (pv 0) (pe_tup (pa_cons (pv 2) (pa_cons (pv 1) pa_nil)))))
    (pss_cons (ps_setLc (i := 4) rfl sc_neighbours.nd rfl rfl (sw_true rfl rfl rfl (by decide +kernel)) (pi_listK rfl (pe_met (c_Schema_links T) hr (by decide) (pe_propR (c_Tables_schema T) hr (by decide) (pv 0) rfl) (pa_cons (pv 2) pa_nil))) (blkOk_by (own := [("field", 5)]) (N := N_neighbours) (sc := defScope s_neighbours) (by decide +kernel)) (fun _ _ _ _ _ => (pg_name (i := 5) sc_neighbours.nd rfl (Or.inl rfl))) (fun _ _ _ _ _ => pts_nil) (fun _ _ _ _ _ => (pe_met (c_Tables_target T) hr (by decide) (pv 0) (pa_cons (pv 2) (pa_cons (pv 1) (pa_cons (pv 5) pa_nil))))))
    (pss_cons (ps_set (i := 6) sc_neighbours.nd rfl (Or.inr rfl) (pe_lc rfl sc_neighbours.nd (pi_listK rfl (pe_met (c_Schema_tags T) hr (by decide) (pe_propR (c_Tables_schema T) hr (by decide) (pv 0) rfl) (pa_cons (pv 2) pa_nil))) (blkOk_by (own := [("field", 5)]) (N := N_neighbours) (sc := defScope s_neighbours) (by decide +kernel)) (fun _ _ _ _ _ => (pg_name (i := 5) sc_neighbours.nd rfl (Or.inl rfl))) (fun _ _ _ _ _ => (pts_one (pt_cmpR op_notN (pe_dget hu (pv 3) (pv 5) (fun _ _ => rfl)) pe_non (nomark _)))) (fun _ _ _ _ _ => (pe_dget hu (pv 3) (pv 5) (fun _ _ => rfl)))))
    (pss_cons (ps_for PassesOwn.never rfl (pi_listK rfl (pe_met0 (c_Schema_tables T) hr (by decide) (pe_propR (c_Tables_schema T) hr (by decide) (pv 0) rfl))) (pg_name (i := 7) sc_neighbours.nd rfl (Or.inl rfl))
      (pss_cons (ps_set (i := 8) sc_neighbours.nd rfl (Or.inr rfl) (pe_met (c_Schema_tags T) hr (by decide) (pe_propR (c_Tables_schema T) hr (by decide) (pv 0) rfl) (pa_cons (pv 7) pa_nil)))
      (pss_cons (ps_set (i := 9) sc_neighbours.nd rfl (Or.inr rfl) (pe_met (c_Tables_rows T) hr (by decide) (pv 0) (pa_cons (pv 7) pa_nil)))
      (pss_one (ps_expr (pe_bmK rfl PySem.F.plainAttrs_list PySem.F.slot_list_extend PySem.F.type_list_extend mt_extend (pv 4) (pa_cons (pe_lk (pe_lc rfl sc_neighbours.nd (pi_keys (pv 9)) (blkOk_by (own := [("one", 10)]) (N := N_neighbours) (sc := defScope s_neighbours) (by decide +kernel)) (fun _ _ _ _ _ => (pg_name (i := 10) sc_neighbours.nd rfl (Or.inr rfl))) (fun _ _ _ _ _ => (pts_one (pt_val (pe_callB (cr_anyK rfl rfl) (by rfl) T.b_any (by decide +kernel) (pa_cons (pe_lc rfl sc_neighbours.nd (pi_listK rfl (pv 8)) (blkOk_by (own := [("field", 5)]) (N := N_neighbours) (sc := _) (by rfl)) (fun _ _ _ _ _ => (pg_name (i := 5) sc_neighbours.nd rfl (Or.inl rfl))) (fun _ _ _ _ _ => pts_nil) (fun _ _ _ _ _ => (pe_cmpR (op_in_seqK rfl) (pe_dget hu (pe_dget hu (pv 9) (pv 10) (fun _ _ => rfl)) (pv 5) (fun _ _ => rfl)) (pv 6) (by rfl)))) pa_nil))))) (fun _ _ _ _ _ => (pv 10)))) pa_nil)))))))
    (pss_one (ps_ret (pe_lc rfl sc_neighbours.nd (pi_listK rfl (pv 4)) (blkOk_by (own := [("one", 10)]) (N := N_neighbours) (sc := defScope s_neighbours) (by decide +kernel)) (fun _ _ _ _ _ => (pg_name (i := 10) sc_neighbours.nd rfl (Or.inl rfl))) (fun _ _ _ _ _ => (pts_one (pt_cmpR op_notN (pv 10) pe_non (nomark _)))) (fun _ _ _ _ _ => (pv 10)))))))))), ?_⟩
  obtain ⟨dx, hi⟩ := id hT.ins
  obtain ⟨ds, d, l, hs, _⟩ := id hS
  have ht : t ∈ tb.map (·.1) := List.mem_map.mpr ⟨_, valD_mem e1, rfl⟩
  have okf := (oT.fs e1).1
  obtain ⟨fs', e1', oC⟩ := oR.ok _ him
  rw [e1] at e1'
  cases e1'
  have ndt := tOf_nodup oR.nd t
  have eR : valD (tOf R t) i = some r := valD_of ndt (tOf_mem.mpr him)
  have hval : ∀ f ∈ fs.map (·.1), ∃ x, valD r f = some x := fun f hf => valD_in (by rw [oC.ks]; exact hf)
  have fin : ∀ {f so : Str}, f ∈ fLike fs so → f ∈ fs.map (·.1) := fun h => by obtain ⟨g, h1, _⟩ := (fLike_mem okf.nd).mp h; exact List.mem_map.mpr ⟨_, valD_mem h1, rfl⟩
  -- table, row
  refine q_set sG (gv_eq (by rw [tabOf_in oR him]) (gv_meth (gv_var rfl) hi rfl (ga_cons (gv_var rfl) ga_nil) (sv_tabOf hT))) fun H1 s1 => ?_
  replace sG := sG.same s1
  refine q_setN sG (gn_opN2 (m2 := .dK (rowK r)) (mk := .tup [.str t, .str i]) (gv_var rfl) (gu_tup (ga_cons (gv_var rfl) (ga_cons (gv_var rfl) ga_nil)) (few rfl)) fun q hq H sb Q k' => ⟨a, dx, _, rfl, sb.ins (Same.put hq _ _ hi), a, q, t, i, r, s', tb, R, kk, ad, upd G q (.tup [.str t, .str i]), rfl, sb, upd_same, hT.mono (Same.put hq) fun _ _ _ h => Same.put hq _ _ h, ht, eR, k'⟩) fun b H2 s2 hb1 hb2 => ?_
  have gb : G b = none := sG.non hb1
  have eG := Same.put (o := .dK (rowK r)) gb
  have st2 : Stp G H (upd G b (.dK (rowK r))) H2 := (((Stp.refl sG).grow s2).tell gb hb1 hb2).pre s1
  replace hT := hT.mono eG fun _ _ _ h => eG _ _ h
  replace hS := hS.mono eG
  replace hi := eG _ _ hi
  replace hs := eG _ _ hs
  have hrow : upd G b (.dK (rowK r)) b = some (.dK (rowK r)) := upd_same
  generalize upd G b (.dK (rowK r)) = G2 at *
  -- found
  refine q_setN st2.sub (mk := .lst ((fLike fs "link").map fun f => ov (tgt tb R t r f))) (gn_eq ?_ (gl_lc (pf := fun _ => true) (ds := fLike fs "link") (fun f => ov (tgt tb R t r f)) (gi_listN (emb := V.str) (gn_meth (gv_sch T hT (gv_var rfl)) hs rfl (ga_cons (gv_var rfl) ga_nil) fun H sb Q E q => ⟨s', t, tb, rs, fs, G2, rfl, sb, hS, oT, e1, q⟩)) (Nat.le_trans (fLike_len okf _) (by decide)) (fun _ _ => rfl) (fun _ _ => gt_yes) fun f hf _ => ?_)) fun fd H3 s3 hf3 hf3' => ?_
  · rw [List.filter_eq_self.mpr (fun _ _ => rfl)]
  · obtain ⟨u, eu⟩ := fLike_link okf.nd hf
    have huT := oT.lk _ (valD_mem e1) _ (valD_mem eu) u rfl
    obtain ⟨x, ex⟩ := hval f (fin hf)
    have : tgt tb R t r f = if hasR R u x then x else none := by unfold tgt; rw [linkTo_eq e1 eu, ex]; rfl
    rw [this]
    exact gv_meth (gv_var rfl) hi rfl (ga_cons (gv_var rfl) (ga_cons (gv_var rfl) (ga_cons (gv_var rfl) ga_nil))) fun H sb Q E q => ⟨a, t, i, f, r, fs, u, x, s', tb, rs, R, kk, ad, G2, rfl, sb, hT, hS, ht, huT, e1, eu, eR, ex, q⟩
  have st3 := st2.grow s3
  have ofd : Own H G2 fd H3 (.lst ((fLike fs "link").map fun f => ov (tgt tb R t r f))) := .made st2 s3 hf3 hf3'
  -- names
  refine q_setN st3.sub (mk := sL (tgNames fs r)) (gn_eq ?_ (gl_lc (pf := fun f => !decide (ov (valD r f).join = .non)) (ds := fLike fs "tag") (fun f => ov (valD r f).join) (gi_listN (emb := V.str) (gn_meth (gv_sch T hT (gv_var rfl)) hs rfl (ga_cons (gv_var rfl) ga_nil) fun H sb Q E q => ⟨s', t, tb, rs, fs, G2, rfl, sb, hS, oT, e1, q⟩)) (Nat.le_trans (fLike_len okf _) (by decide)) (fun _ _ => rfl) (fun f hf => ?_) fun f hf _ => ?_)) fun nm H4 s4 hn4 hn4' => ?_
  · have := filterMap_ov ((fLike fs "tag").map fun f => (valD r f).join)
    rw [List.filter_map, List.map_map, List.filterMap_map] at this
    exact congrArg HO.lst this
  · obtain ⟨x, ex⟩ := hval f (fin hf)
    rw [ex]
    exact gt_test (gv_op (x := ov x) (gv_dget (k := Sum.inr f) (gv_var rfl) (gv_var rfl) hrow (by rw [rowK_val, ex]; rfl)) gv_c rv_notN)
  · obtain ⟨x, ex⟩ := hval f (fin hf)
    rw [ex]
    exact gv_dget (v := ov x) (k := Sum.inr f) (gv_var rfl) (gv_var rfl) hrow (by rw [rowK_val, ex]; rfl)
  have gn4 : G2 nm = none := st3.sub.non hn4
  have nfd : nm ≠ fd := fun z => by rw [z, ofd.at_] at hn4; cases hn4
  have eG4 := Same.put (o := sL (tgNames fs r)) gn4
  have st4 : Stp G H (upd G2 nm (sL (tgNames fs r))) H4 := (st3.grow s4).tell gn4 (st3.keep.free hn4) hn4'
  replace ofd : Own H (upd G2 nm (sL (tgNames fs r))) fd H4 (.lst ((fLike fs "link").map fun f => ov (tgt tb R t r f))) := ⟨ofd.h0, by rw [upd_ne (Ne.symm nfd)]; exact ofd.g, s4 _ _ ofd.at_⟩
  replace hT := hT.mono eG4 fun _ _ _ h => eG4 _ _ h
  replace hS := hS.mono eG4
  replace hi := eG4 _ _ hi
  replace hs := eG4 _ _ hs
  have hnm : upd G2 nm (sL (tgNames fs r)) nm = some (sL (tgNames fs r)) := upd_same
  clear hrow eG4 gn4 nfd st3 s4 hn4 hn4' s3 hf3 hf3' st2 hb1 hb2 gb eG s2
  generalize upd G2 nm (sL (tgNames fs r)) = G4 at *
  have l10 := oR.len
  have tb3 := oT.hi
  have exl : ∀ j, ((tb.take j).flatMap (shareIds R (tgNames fs r))).length ≤ 30 := fun j => by
    rw [List.length_flatMap]
    have : ∀ l : Tbs, (l.map fun o => (shareIds R (tgNames fs r) o).length).sum ≤ 10 * l.length := by
      intro l
      induction l with
      | nil => simp
      | cons o l ih =>
        rw [List.map_cons, List.sum_cons, List.length_cons]
        have h1 : (shareIds R (tgNames fs r) o).length ≤ 10 := by
          unfold shareIds
          rw [List.length_map]
          have := List.length_filter_le (fun q : Str × Row => shares o.2 (tgNames fs r) q.2) (srtD (tOf R o.1))
          have := tOf_len R o.1
          rw [srtD_len] at *
          omega
        omega
    have := this (tb.take j)
    have : (tb.take j).length ≤ 3 := by rw [List.length_take]; omega
    omega
  have lkl := fLike_len okf "link"
  refine q_of (s_for (Pre := Fr0) (G0 := G) (H0 := H) (ds := tb) (up := upN 7 fun o => .str o.1) (Iv := fun (j : Nat) σ2 G5 H5 => (∃ v7 v8 v9, σ2 = [some (.ref a), some (.str i), some (.str t), some (.ref b), some (.ref fd), none, some (.ref nm), v7, v8, v9, none]) ∧ Same G4 G5 ∧ Own H G5 fd H5 (.lst ((((fLike fs "link").map (tgt tb R t r)) ++ (tb.take j).flatMap (shareIds R (tgNames fs r))).map ov)))
    st4 ((gi_listN (ds := tb.map (·.1)) (emb := V.str) (gn_meth (gv_sch T hT (gv_var rfl)) hs rfl ga_nil fun H sb Q E q => ⟨s', tb, rs, G4, rfl, sb, hS, q⟩)).from_ (fun o => o.1) rfl fun _ _ _ => rfl) trivial (fun _ _ _ _ _ e h => ⟨h.1, h.2.1, h.2.2.grow e⟩) (fun G5 H5 s5 => ⟨⟨_, _, _, rfl⟩, s5.ex, ?_⟩) (fun G5 H5 s5 j o ho σ2 G6 H6 lp iv => ?_) fun G6 H6 σ2 lp iv => ?_)
  · rw [List.take_zero, List.flatMap_nil, List.append_nil, List.map_map]
    exact ofd.step s5
  · obtain ⟨⟨v7, v8, v9, rfl⟩, eG, own⟩ := iv
    have om := List.mem_of_getElem? ho
    have eo := valD_of oT.nd om
    have oko := oT.ok o om
    have hoT : o.1 ∈ tb.map (·.1) := List.mem_map.mpr ⟨o, om, rfl⟩
    have hT6 := hT.mono eG fun _ _ _ h => eG _ _ h
    have hS6 := hS.mono eG
    refine q_setN lp.st.sub (gn_meth (gv_sch T hT6 (gv_var rfl)) (eG _ _ hs) rfl (ga_cons (gv_var rfl) ga_nil) fun H sb Q E q => ⟨s', o.1, tb, rs, o.2, G6, rfl, sb, hS6, oT, eo, q⟩) fun fl H7 s7 hf7 hf7' => ?_
    have ofl : Own H G6 fl H7 (sL (fLike o.2 "tag")) := .made lp.st s7 hf7 hf7'
    have own7 := own.grow s7
    have nfl : fd ≠ fl := fun z => by rw [← z, own.at_] at hf7; cases hf7
    have lp7 := (lp.grow s7).tell ofl
    replace own7 : Own H (upd G6 fl (sL (fLike o.2 "tag"))) fd H7 _ := ⟨own7.h0, by rw [upd_ne nfl]; exact own7.g, own7.at_⟩
    have eG7 : Same G4 (upd G6 fl (sL (fLike o.2 "tag"))) := eG.trans (Same.put ofl.g)
    have hT7 := hT.mono eG7 fun _ _ _ h => eG7 _ _ h
    have hfl : upd G6 fl (sL (fLike o.2 "tag")) fl = some (sL (fLike o.2 "tag")) := upd_same
    generalize upd G6 fl (sL (fLike o.2 "tag")) = G7 at *
    refine q_setX lp7.st.sub (ge_meth (gv_var rfl) (eG7 _ _ hi) rfl (ga_cons (gv_var rfl) ga_nil) (sx_rows hT7 hoT oR)) fun v G8 H8 s8 hv => ?_
    obtain ⟨rd, rkv, rfl, hrd, hrp⟩ := hv
    have lp8 := lp7.step s8
    have own8 := own7.step s8
    have ndo := srtD_nodup (tOf_nodup oR.nd o.1)
    have lo : (srtD (tOf R o.1)).length ≤ 10 := by rw [srtD_len]; exact Nat.le_trans (tOf_len R o.1) l10
    refine s_extendN lp8.st.sub (gv_var rfl) (zs := (shareIds R (tgNames fs r) o).map ov) (gn_eq ?_ (gl_lcK hrd (pf := fun q => shares o.2 (tgNames fs r) q.2) (fun q => V.str q.1) (gi_keysD (gv_var rfl) hrp) (by omega) (fun _ _ => rfl) (fun q hq => ?_) fun q hq _ => gv_var rfl)) own8.at_ ?_ fun H9 s9 => ⟨G8, (lp8.grow s9).write (own8.grow s9) (by simp), ⟨_, _, _, rfl⟩, eG7.trans s8.ex, ?_⟩
    · unfold shareIds
      rw [List.map_map]
      rfl
    · obtain ⟨hv1, ra, er, hra⟩ := hrp.at_ (valD_of ndo hq)
      obtain ⟨fs2, e2, oC2⟩ := oR.row (t := o.1) (i := q.1) (r := q.2) (srtD_mem.mp hq)
      rw [eo] at e2
      cases e2
      refine gt_B (gv_any (bs := (fLike o.2 "tag").map fun f => match (valD q.2 f).join with | some s => decide (s ∈ tgNames fs r) | none => false) (gn_eq ?_ (gl_lc (pf := fun _ => true) (ds := fLike o.2 "tag") (fun f => V.bl (match (valD q.2 f).join with | some s => decide (s ∈ tgNames fs r) | none => false)) (gi_list (emb := V.str) (gv_var rfl) (s8.ex _ _ hfl)) (Nat.le_trans (fLike_len oko _) (by decide)) (fun _ _ => rfl) (fun _ _ => gt_yes) fun f hf _ => ?_))) |> gt_eq ?_
      · unfold shares
        rw [List.any_map]
        rfl
      · rw [List.filter_eq_self.mpr (fun _ _ => rfl), List.map_map]
        rfl
      · have hfm : f ∈ q.2.map (·.1) := by
          obtain ⟨g, h1, _⟩ := (fLike_mem oko.nd).mp hf
          rw [oC2.ks]; exact List.mem_map.mpr ⟨_, valD_mem h1, rfl⟩
        obtain ⟨x, ex⟩ := valD_in hfm
        rw [ex]
        exact gv_op (gv_dget (v := ov x) (k := Sum.inr f) (gv_eq er (gv_dget (k := Sum.inr q.1) (gv_var rfl) (gv_var rfl) hrd hv1)) (gv_var rfl) hra (by rw [rowK_val, ex]; rfl)) (gv_var rfl) (rv_inSo (s8.ex _ _ (eG7 _ _ hnm)))
    · rw [List.length_map, List.length_map, List.length_append, List.length_map, sizeLine_eq]
      have h1 := exl j
      have h2 : (shareIds R (tgNames fs r) o).length ≤ 10 := by
        unfold shareIds
        rw [List.length_map]
        have := List.length_filter_le (fun q : Str × Row => shares o.2 (tgNames fs r) q.2) (srtD (tOf R o.1))
        omega
      omega
    · rw [flat_snoc ho, ← List.append_assoc, List.map_append (l₂ := shareIds R (tgNames fs r) o)]
      exact (own8.grow s9).write
  · obtain ⟨⟨v7, v8, v9, rfl⟩, eG, own⟩ := iv
    rw [List.take_length] at own
    have el := exl tb.length
    rw [List.take_length] at el
    dsimp only
    refine s_retN (lp.st.tell own.g own.h0 own.at_).sub (gn_eq ?_ (gl_lc (pf := fun x => !decide (ov x = .non)) (ds := ((fLike fs "link").map (tgt tb R t r)) ++ tb.flatMap (shareIds R (tgNames fs r))) ov (gi_list (emb := ov) (gv_var rfl) upd_same) ?_ (fun _ _ => rfl) (fun x hx => gt_test (gv_op (gv_var rfl) gv_c rv_notN)) fun x hx _ => gv_var rfl)) fun p H7 s7 hp hp' => k p H7 (lp.st.keep.trans s7) (lp.st.keep.free hp) hp'
    · rw [filterMap_ov]
      rfl
    · rw [List.length_append, List.length_map]
      omega
end
end K25

/-! F18 -/
namespace K25
open PySem PySem.Spec PyProof.Rows L2
/-! ### who is reached -/
abbrev Nr := List (Str × List Str)
def nrR : RelD (List Str) := fun v l G => ∃ b, v = .ref b ∧ G b = some (sL l)
theorem nrR_mono : MonD nrR := fun _ _ _ _ e ⟨b, h1, h2⟩ => ⟨b, h1, e _ _ h2⟩
inductive Rch (ne : Nr) (i : Str) : Str → Prop
  | here : Rch ne i i
  | step {x y : Str} {l : List Str} : Rch ne i x → valD ne x = some l → y ∈ l → Rch ne i y
theorem nodup_len {α : Type} : ∀ {l m : List α}, l.Nodup → (∀ x ∈ l, x ∈ m) → l.length ≤ m.length
  | [], m, _, _ => by simp
  | a :: l, m, nd, h => by
    obtain ⟨s, t, e⟩ := List.append_of_mem (h a List.mem_cons_self)
    rw [List.nodup_cons] at nd
    have := nodup_len (m := s ++ t) nd.2 fun x hx => by
      have h1 := h x (List.mem_cons_of_mem _ hx)
      rw [e] at h1
      rcases List.mem_append.mp h1 with h1 | h1
      · exact List.mem_append_left _ h1
      rcases List.mem_cons.mp h1 with h1 | h1
      · rw [h1] at hx; exact absurd hx nd.1
      · exact List.mem_append_right _ h1
    rw [e, List.length_append, List.length_cons]
    rw [List.length_append] at this
    rw [List.length_cons]
    omega
structure RI (ne : Nr) (i : Str) (F : List Str) (t : Nat) : Prop where
  hi : i ∈ F
  nd : F.Nodup
  rch : ∀ x ∈ F, Rch ne i x
  le : t ≤ F.length
  cl : ∀ j x l y, j < t → F[j]? = some x → valD ne x = some l → y ∈ l → y ∈ F
theorem RI.done {ne : Nr} {i : Str} {F : List Str} (h : RI ne i F F.length) (x : Str) : x ∈ F ↔ Rch ne i x := by
  refine ⟨h.rch x, fun r => ?_⟩
  induction r with
  | here => exact h.hi
  | step r e m ih =>
    obtain ⟨j, hj, ej⟩ := List.mem_iff_getElem.mp ih
    exact h.cl j _ _ _ hj (by rw [List.getElem?_eq_getElem hj, ej]) e m
theorem RI.turn {ne : Nr} {i x : Str} {F F' l : List Str} {t : Nat} (h : RI ne i F t) (ht : F[t]? = some x) (e : valD ne x = some l) (hF : ∃ E, F' = F ++ E) (nd : F'.Nodup) (r : ∀ x ∈ F', Rch ne i x) (hl : ∀ y ∈ l, y ∈ F') : RI ne i F' (t + 1) := by
  obtain ⟨E, rfl⟩ := hF
  have lt : t < F.length := by
    rcases Nat.lt_or_ge t F.length with h | h
    · exact h
    · rw [List.getElem?_eq_none h] at ht; cases ht
  refine ⟨List.mem_append_left _ h.hi, nd, r, by rw [List.length_append]; omega, fun j x' l' y hj ej el hy => ?_⟩
  rw [List.getElem?_append_left (by omega)] at ej
  by_cases hjt : j = t
  · subst hjt
    rw [ht] at ej
    cases ej
    rw [e] at el
    cases el
    exact hl y hy
  · exact List.mem_append_left _ (h.cl j x' l' y (by omega) ej el hy)
section
variable {δ : Type} {K : PySem.W.Frag} {σ : L2.St} {G H : Hp} {ds : List δ} {emb : δ → V} {j : Nat} {tl : TE} {a fd : Addr} {o : HO}
theorem sub_told (s : Sub G H) (h : H fd = some o) : Sub (upd G fd o) H := fun a u e => by
  by_cases n : a = fd
  · subst n
    rw [upd_same] at e
    cases e
    exact .inl h
  · rw [upd_ne n] at e
    exact s a u e
/-- the list is found through a thing that is written within the loop -/
theorem gi_listT (h : Gv tl σ (upd G fd o) (.ref a)) (ha : G a = some (.lst (ds.map emb))) : GI (fun H => H fd = some o) (iList K tl) (gName j) σ G ds (upN j emb) := fun H s c R r =>
  h H (sub_told s c) _ fun H1 e1 => ⟨a, rfl, ⟨_, SqL.of ((s.same e1).lst ha)⟩, r _ G H1 ((Stp.refl s).grow e1) (wk_list ha)⟩
theorem s_aug {G : Hp} {D : Ends} {te : TE} {i : Nat} {m n : Int} (s : Sub G H) (hx : σ[i]? = some (some (.int m))) (he : Gv te σ G (.int n)) (k : ∀ H', Same H H' → D.nx (σ.set i (some (.int (m + n)))) H') : tAug i te (ipI fun i j => i + j) D σ H :=
  ⟨_, hx, he H s _ fun H' e => ⟨m, n, rfl, rfl, k H' e⟩⟩
end
section
variable {P : Program} {w : World} {K : PySem.W.Frag} {mg : Str → Option Value} {base : Heap}
def spReached : Sp := fun vs H Q _ => ∃ a i kvs ne G, vs = [.ref a, .str i] ∧ Sub G H ∧ G a = some (.dK kvs) ∧ PrD nrR G kvs ne ∧ i ∈ ne.map (·.1) ∧ ne.length ≤ 10 ∧ (∀ x l y, valD ne x = some l → y ∈ l → y ∈ ne.map (·.1)) ∧
  ∀ p H' L, Same H H' → H p = none → H' p = some (sL (sortS L)) → L.Nodup → (∀ x, x ∈ L ↔ Rch ne i x) → Q (.ref p) H'
abbrev N_reached : List Str := ["near", "ident", "found", "at", "one"]
theorem sc_reached : FnScope N_reached ["near", "ident"] (defScope s_reached) := ⟨rfl, rfl, rfl, by decide +kernel, rfl, by decide +kernel, by decide +kernel⟩
-- slots: 0 near, 1 ident, 2 found, 3 at, 4 one
theorem c_reached (T : Tx K mg) : Cal P w K mg base 1 "reached" spReached := by
  refine ⟨_, _, ["near", "ident"], fn_body T.f_reached sc_reached (fun vs H Q E h => by obtain ⟨_, _, _, _, _, rfl, _⟩ := h; rfl) (fun cdv A outer s H vs Q E hr h => ?_), T.g_reached, T.f_reached.kp, T.f_reached.bindsN fun _ _ _ _ _ _ us hl => match us, hl with | [_, _], _ => rfl⟩
  obtain ⟨a, i, kvs, ne, G, rfl, sG, ha, hp, hi, l10, hc, k⟩ := h
  have hu := hu_of hr
  refine ⟨_,
    (pss_cons (ps_set (i := 2) sc_reached.nd rfl (Or.inl rfl) (pe_lst (pa_cons (pv 1) pa_nil)))
    (pss_cons (ps_set (i := 3) sc_reached.nd rfl (Or.inl rfl) pe_int)
    (pss_cons (ps_while PassesOwn.never (pt_cmpR op_lt (pv 3) (pe_callB (call_len_seqK rfl) (by rfl) T.b_len (by decide +kernel) (pa_cons (pv 2) pa_nil)) (nomark _))
      (pss_cons (ps_for PassesOwn.never rfl (pi_listK rfl (pe_dget hu (pv 0) (pe_ix (ix_listK rfl) (pv 2) (pv 3) (fun _ _ => rfl)) (fun _ _ => rfl))) (pg_name (i := 4) sc_reached.nd rfl (Or.inl rfl))
        (pss_one (ps_if (pt_cmpR (op_notIn_seqK rfl) (pv 4) (pv 2) (by rfl))
          (pss_one (ps_expr (pe_bmK rfl PySem.F.plainAttrs_list PySem.F.slot_list_append PySem.F.type_list_append mt_append (pv 2) (pa_cons (pv 4) pa_nil))))
          pss_nil)))
      (pss_one (ps_aug (i := 3) sc_reached.nd rfl (Or.inl rfl) pe_int ip_add))))
    (pss_one (ps_ret (pe_callB (cr_sortedSK rfl) (by rfl) T.b_sorted (by decide +kernel) (pa_cons (pv 2) pa_nil))))))), ?_⟩
  have key : ∀ x, Rch ne i x → x ∈ ne.map (·.1) := fun x r => by
    cases r with
    | here => exact hi
    | step r e m => exact hc _ _ _ e m
  have lenF : ∀ {F t}, RI ne i F t → F.length ≤ 10 := fun {F t} h => Nat.le_trans (nodup_len h.nd fun x hx => key x (h.rch x hx)) (by rw [List.length_map]; exact l10)
  refine q_setN sG (mk := sL [i]) (gl_lst (ga_cons (gv_var rfl) ga_nil) (few rfl)) fun fd H1 s1 hf hf' => ?_
  have st1 : Stp G H G H1 := (Stp.refl sG).grow s1
  have ow1 : Own H G fd H1 (sL [i]) := .made (Stp.refl sG) s1 hf hf'
  refine q_set st1.sub gv_c fun H2 s2 => ?_
  refine q_of ⟨fun m σ2 H2 => ∃ (t : Nat) (F : List Str) (G2 : Hp) (v4 : Option V), σ2 = [some (.ref a), some (.str i), some (.ref fd), some (.int t), v4] ∧ Stp G H G2 H2 ∧ Own H G2 fd H2 (sL F) ∧ RI ne i F t ∧ m = 10 - t,
    ⟨10, 0, [i], G, none, rfl, st1.grow s2, ow1.grow s2, ⟨List.mem_singleton.mpr rfl, by simp, fun x hx => by rw [List.mem_singleton.mp hx]; exact .here, Nat.zero_le _, fun j _ _ _ hj => absurd hj (by omega)⟩, rfl⟩, ?_⟩
  rintro m σ2 H3 ⟨t, F, G3, v4, rfl, st, ow, ri, rfl⟩
  have told := st.tell ow.g ow.h0 ow.at_
  refine (gt_test (b := decide ((t : Int) < F.length)) (gv_op (gv_var rfl) (gv_lenL (gv_var rfl) upd_same (by rw [List.length_map])) rv_I0)) H3 told.sub _ fun H4 s4 => ?_
  by_cases lt : t < F.length
  · rw [if_pos (decide_eq_true (by omega))]
    have l10 := lenF ri
    refine ⟨fun σ' H' => ∃ m', m' < 10 - t ∧ ∃ (t : Nat) (F : List Str) (G2 : Hp) (v4 : Option V), σ' = [some (.ref a), some (.str i), some (.ref fd), some (.int t), v4] ∧ Stp G H G2 H' ∧ Own H G2 fd H' (sL F) ∧ RI ne i F t ∧ m' = 10 - t, fun _ _ z => z, ?_⟩
    have et : F[t]? = some F[t] := List.getElem?_eq_getElem lt
    have rx : Rch ne i F[t] := ri.rch _ (List.getElem_mem lt)
    generalize F[t] = x at et rx
    obtain ⟨l, el⟩ := valD_in (key x rx)
    obtain ⟨v, hv, b, rfl, hb⟩ := (hp.get x).1 l el
    refine q_of (s_for (Pre := fun H => H fd = some (sL F)) (G0 := G) (H0 := H) (ds := l) (up := upN 4 V.str) (Iv := fun (j : Nat) σ2 G5 H5 => ∃ F' v4, σ2 = [some (.ref a), some (.str i), some (.ref fd), some (.int t), v4] ∧ Own H G5 fd H5 (sL F') ∧ (∃ E, F' = F ++ E) ∧ F'.Nodup ∧ (∀ x ∈ F', Rch ne i x) ∧ ∀ y ∈ l.take j, y ∈ F')
      (st.grow s4) (gi_listT (emb := V.str) (gv_dget (k := Sum.inr x) (gv_var rfl) (gv_op (gv_var rfl) (gv_var rfl) (rv_ixL upd_same (atN (by rw [List.getElem?_map, et]; rfl)))) (told.ex _ _ ha) hv) (st.ex _ _ hb)) (ow.grow s4).at_ (fun _ _ _ _ _ e ⟨F', v4, h1, h2, h3⟩ => ⟨F', v4, h1, h2.grow e, h3⟩) (fun G5 H5 s5 => ⟨F, _, rfl, (ow.grow s4).step s5, ⟨[], by simp⟩, ri.nd, ri.rch, fun y hy => by cases hy⟩) (fun G5 H5 s5 j y hy σ2 G6 H6 lp iv => ?_) fun G6 H6 σ2 lp iv => ?_)
    · obtain ⟨F', v4', rfl, own, hE, nd', r', hl'⟩ := iv
      have ym := List.mem_of_getElem? hy
      have ry : Rch ne i y := .step rx el ym
      have told6 := lp.st.tell own.g own.h0 own.at_
      have hlF : F'.length ≤ 10 := Nat.le_trans (nodup_len nd' fun x hx => key x (r' x hx)) (by rw [List.length_map]; assumption)
      refine s_if told6.sub (b := !decide (y ∈ F')) (gt_test (gv_op (gv_var rfl) (gv_var rfl) (rv_inS upd_same))) (fun hn H7 s7 => ?_) fun hn H7 s7 => ?_
      · have ny : y ∉ F' := by simpa using hn
        refine s_append (lp.grow s7).st.sub (gv_var rfl) (gv_var rfl) (own.grow s7).at_ (by rw [List.length_map, sizeLine_eq]; omega) fun H8 s8 => ⟨G6, (lp.grow (s7.trans s8)).write (own.grow (s7.trans s8)) (by simp), F' ++ [y], _, rfl, ?_, ?_, ?_, ?_, ?_⟩
        · rw [show (List.map V.str F' ++ [V.str y] : List V) = (F' ++ [y]).map V.str by rw [List.map_append]; rfl]
          exact (own.grow (s7.trans s8)).write
        · obtain ⟨E, rfl⟩ := hE
          exact ⟨E ++ [y], by rw [List.append_assoc]⟩
        · rw [List.nodup_append]
          exact ⟨nd', by simp, fun a ha b hb e => ny (by rw [← List.mem_singleton.mp hb, ← e]; exact ha)⟩
        · intro z hz
          rcases List.mem_append.mp hz with hz | hz
          · exact r' z hz
          · rw [List.mem_singleton.mp hz]; exact ry
        · intro z hz
          rw [List.take_add_one, hy] at hz
          rcases List.mem_append.mp hz with hz | hz
          · exact List.mem_append_left _ (hl' z hz)
          · rw [show z = y by simpa using hz]; exact List.mem_append_right _ (List.mem_singleton.mpr rfl)
      · have yF : y ∈ F' := by simpa using hn
        refine ⟨G6, lp.grow s7, F', _, rfl, own.grow s7, hE, nd', r', fun z hz => ?_⟩
        rw [List.take_add_one, hy] at hz
        rcases List.mem_append.mp hz with hz | hz
        · exact hl' z hz
        · rw [show z = y by simpa using hz]; exact yF
    · obtain ⟨F', v4', rfl, own, hE, nd', r', hl'⟩ := iv
      dsimp only
      refine s_aug lp.st.sub rfl gv_c fun H7 s7 => ⟨10 - (t + 1), by omega, t + 1, F', G6, v4', ?_, lp.st.grow s7, own.grow s7, ri.turn et el hE nd' r' fun y hy => hl' y (by rw [List.take_length]; exact hy), rfl⟩
      simp
  · rw [if_neg (by rw [decide_eq_true_iff]; omega)]
    have e : t = F.length := Nat.le_antisymm ri.le (by omega)
    subst e
    dsimp only
    refine s_retN (told.grow s4).sub (gl_sorted (gv_var rfl) upd_same (by have := lenF ri; omega)) fun p H5 s5 hp hp' => ?_
    exact k p H5 F ((st.grow s4).keep.trans s5) ((st.grow s4).keep.free hp) hp' ri.nd ri.done
end
end K25

/-! F19 -/
/-! F19: {k: [] for ..}; new tables; who is near, as lists. -/
namespace K25
open PySem PySem.Spec PyProof.Rows L2
section
variable {δ : Type} {K : PySem.W.Frag} {σ : L2.St} {G H : Hp} {ds : List δ} {up : δ → L2.St → L2.St} {wi : TI} {g : TG} {tk ta tb : TE} {vs : List Nat} {r : R2} {x : V}
/-- {k: [] for ..}: new lists of one's own, different ones -/
theorem gm_dcL (kf : δ → Key) (s : Sub G H) (hi : GI Fr0 wi g σ G ds up) (hz : ds.length ≤ 100000) (hw : ∀ d ∈ ds, wipe (up d (wipe σ vs)) vs = wipe σ vs) (hn : (ds.map kf).Nodup)
    (hk : ∀ d ∈ ds, ∀ G', Same G G' → Gv tk (up d (wipe σ vs)) G' (kV (kf d))) {Q : VK}
    (q : ∀ D ps G' H', Stp G H G' H' → H D = none → G' D = none → H' D = some (.dK ((ds.zip ps).map fun z => (kf z.1, V.ref z.2))) → ps.length = ds.length → ps.Nodup → (∀ a ∈ ps, H a = none ∧ G' a = none ∧ H' a = some (.lst []) ∧ a ≠ D) → Q (.ref D) H') : tDc wi g tYes tk (tLst tNil) vs σ H Q :=
  hi H s trivial _ fun J G1 H1 st1 wk D hD => by
    refine ⟨fun i m H2 => m = ds.length - i ∧ i ≤ ds.length ∧ ∃ ps, Stp G1 H1 G1 H2 ∧ H2 D = some (.dK (((ds.take i).zip ps).map fun z => (kf z.1, V.ref z.2))) ∧ ps.length = i ∧ ps.Nodup ∧ ∀ a ∈ ps, H1 a = none ∧ G1 a = none ∧ H2 a = some (.lst []) ∧ a ≠ D,
      ⟨ds.length, by simp, Nat.zero_le _, [], (Stp.refl st1.sub).hide hD, by rw [upd_same]; rfl, rfl, List.nodup_nil, fun a ha => by cases ha⟩, ?_⟩
    rintro i m H2 ⟨rfl, hil, ps, st, hD2, hl, nd, al⟩
    have gD : G1 D = none := st1.sub.non hD
    by_cases hlt : i < ds.length
    · have hd : ds[i]? = some ds[i] := List.getElem?_eq_getElem hlt
      have hdi : ds[i] ∈ ds := List.getElem_mem hlt
      have hnew : ∀ z ∈ (ds.take i).zip ps, kf z.1 ≠ kf ds[i] := by
        intro z hzm e
        have hz1 := (List.of_mem_zip hzm).1
        obtain ⟨j, hj, ej⟩ := List.mem_iff_getElem.mp hz1
        rw [List.length_take] at hj
        rw [List.getElem_take] at ej
        have : (ds.map kf)[j]'(by rw [List.length_map]; omega) = (ds.map kf)[i]'(by rw [List.length_map]; omega) := by
          rw [List.getElem_map, List.getElem_map, ej, e]
        have := (List.getElem_inj hn).mp this
        omega
      generalize ds[i] = d at hd hdi hnew
      obtain ⟨go, turn⟩ := wk.go H2 st.sub (Same.frz st.keep) i d hd
      refine .inr ⟨go, fun H' => ∃ m', m' < ds.length - i ∧ (m' = ds.length - (i + 1) ∧ i + 1 ≤ ds.length ∧ ∃ ps, Stp G1 H1 G1 H' ∧ H' D = some (.dK (((ds.take (i + 1)).zip ps).map fun z => (kf z.1, V.ref z.2))) ∧ ps.length = i + 1 ∧ ps.Nodup ∧ ∀ a ∈ ps, H1 a = none ∧ G1 a = none ∧ H' a = some (.lst []) ∧ a ≠ D), fun H' z => z, fun x H3 y => ?_⟩
      obtain ⟨e3, asg⟩ := turn x H3 y
      refine asg (wipe σ vs) _ fun H4 e4 => ⟨hw d hdi, ?_⟩
      unfold tYes
      simp only [if_true]
      have e24 := e3.trans e4
      refine hk d hdi G1 st1.ex H4 (st.sub.same e24) _ fun H5 e5 => ?_
      have e25 := e24.trans e5
      refine ⟨by decide, fun p hp => ?_⟩
      have e26 : Same H2 (upd H5 p (.lst [])) := e25.trans (Same.put hp)
      have pD : p ≠ D := fun z => by rw [z, e25 D _ hD2] at hp; cases hp
      have p1 : H1 p = none := st.keep.free (e25.free hp)
      have nk : valV (((ds.take i).zip ps).map fun z => (kf z.1, V.ref z.2)) (kf d) = none := by
        cases z : valV (((ds.take i).zip ps).map fun z => (kf z.1, V.ref z.2)) (kf d) with
        | none => rfl
        | some w =>
          exfalso
          unfold valV at z
          cases f : (((ds.take i).zip ps).map fun z => (kf z.1, V.ref z.2)).find? fun kv => decide (kv.1 = kf d) with
          | none => rw [f] at z; cases z
          | some kv =>
            obtain ⟨u, hu, rfl⟩ := List.mem_map.mp (List.mem_of_find?_eq_some f)
            have := List.find?_some f
            exact hnew u hu (of_decide_eq_true this)
      refine ⟨_, kf d, rfl, e26 D _ hD2, ?_, ds.length - (i + 1), by omega, rfl, hlt, ps ++ [p], ?_, ?_, by rw [List.length_append, hl]; rfl, ?_, ?_⟩
      · rw [List.length_map, List.length_zip, hl, List.length_take, sizeLine_eq]
        omega
      · exact (st.grow e26).write gD hD
      · rw [upd_same, putK_new _ nk, take_snoc hd, List.zip_append (by rw [List.length_take, hl]; omega)]
        simp
      · rw [List.nodup_append]
        refine ⟨nd, by simp, fun a ha b hb => ?_⟩
        rw [List.mem_singleton] at hb
        rw [hb]
        intro e
        rw [e] at ha
        have := (al p ha).2.2.1
        rw [e25 p _ this] at hp
        cases hp
      · intro a ha
        rcases List.mem_append.mp ha with ha | ha
        · obtain ⟨a1, a2, a3, a4⟩ := al a ha
          exact ⟨a1, a2, by rw [upd_ne a4]; exact e26 a _ a3, a4⟩
        · rw [List.mem_singleton] at ha
          rw [ha]
          exact ⟨p1, st1.sub.non p1, by rw [upd_ne pD]; exact upd_same, pD⟩
    · have ei : i = ds.length := by omega
      subst ei
      rw [List.take_length] at hD2
      exact .inl ⟨wk.stop H2 st.sub (Same.frz st.keep), q D ps G1 H2 (st1.trans st) (st1.keep.free hD) gD hD2 hl nd fun a ha => ⟨st1.keep.free (al a ha).1, (al a ha).2⟩⟩
/-- two new things, of one's own -/
theorem q_parNN {i j : Nat} {D : Ends} {rest : TS} {m1 m2 : HO} (s : Sub G H) (h1 : Gn m1 ta σ G) (h2 : Gn m2 tb σ G) (k : ∀ p q H', Same H H' → H p = none → H q = none → p ≠ q → H' p = some m1 → H' q = some m2 → rest D ((σ.set i (some (.ref p))).set j (some (.ref q))) H') : tSeq (tPar i j (tCons ta (tCons tb tNil))) rest D σ H :=
  h1 H s _ fun p H1 e1 hp hp' => h2 H1 (s.same e1) _ fun q H2 e2 hq hq' => ⟨.ref p, .ref q, rfl, k p q H2 (e1.trans e2) hp (e1.free hq) (fun z => by rw [← z, hp'] at hq; cases hq) (e2 _ _ hp') hq'⟩
theorem Stp.telM {G0 H0 : Hp} {M : List Addr} (st : Stp G0 H0 G H) (h0 : ∀ m ∈ M, H0 m = none) (hg : ∀ m ∈ M, G m = none) : Stp G0 H0 (tel G H M) H :=
  ⟨st.ex.trans (tel_same hg), tel_sub st.sub, st.keep, fun a h1 h2 => by
    unfold tel
    rw [if_neg fun m => h2 (h0 a m)]
    exact st.new a h1 h2⟩
end
/-! ### near -/
def nbO (tb : Tbs) (R : Rws) (x : Str) : List Str := match valD R x with
  | some (t, r) => (match valD tb t with | some fs => nbrs tb R fs t r | none => [])
  | none => []
def Adj (tb : Tbs) (R : Rws) (x y : Str) : Prop := y ∈ nbO tb R x ∨ x ∈ nbO tb R y
inductive RchG (tb : Tbs) (R : Rws) (i : Str) : Str → Prop
  | here : RchG tb R i i
  | step {x y : Str} : RchG tb R i x → Adj tb R x y → RchG tb R i y
theorem hasR_in {R : Rws} {t : Str} {x : Str} (h : hasR R t (some x) = true) : x ∈ R.map (·.1) := by
  obtain ⟨⟨j, r⟩, hq, e⟩ := List.mem_map.mp (of_decide_eq_true h)
  simp only at e
  subst e
  exact List.mem_map.mpr ⟨_, tOf_mem.mp hq, rfl⟩
theorem nbrs_in {tb : Tbs} {R : Rws} {fs : Flds} {t : Str} {r : Row} {y : Str} (h : y ∈ nbrs tb R fs t r) : y ∈ R.map (·.1) := by
  obtain ⟨x, hx, e⟩ := List.mem_filterMap.mp h
  simp only [id] at e
  subst e
  rcases List.mem_append.mp hx with hx | hx
  · obtain ⟨f, hf, e⟩ := List.mem_map.mp hx
    unfold tgt at e
    split at e
    · rename_i hh
      rw [e] at hh
      exact hasR_in hh
    · cases e
  · obtain ⟨o, ho, hx⟩ := List.mem_flatMap.mp hx
    unfold shareIds at hx
    obtain ⟨q, hq, e⟩ := List.mem_map.mp hx
    cases e
    exact List.mem_map.mpr ⟨_, tOf_mem.mp (srtD_mem.mp (List.mem_filter.mp hq).1), rfl⟩
theorem nbO_in {tb : Tbs} {R : Rws} {x y : Str} (h : y ∈ nbO tb R x) : y ∈ R.map (·.1) ∧ x ∈ R.map (·.1) := by
  unfold nbO at h
  split at h
  · rename_i t r e
    split at h
    · exact ⟨nbrs_in h, List.mem_map.mpr ⟨_, valD_mem e, rfl⟩⟩
    · cases h
  · cases h
theorem Adj.sym {tb : Tbs} {R : Rws} {x y : Str} (h : Adj tb R x y) : Adj tb R y x := h.symm
theorem Adj.mem {tb : Tbs} {R : Rws} {x y : Str} (h : Adj tb R x y) : x ∈ R.map (·.1) ∧ y ∈ R.map (·.1) := by
  rcases h with h | h
  · exact (nbO_in h).symm
  · exact nbO_in h
theorem RchG.mem {tb : Tbs} {R : Rws} {i x : Str} (h : RchG tb R i x) (hi : i ∈ R.map (·.1)) : x ∈ R.map (·.1) := by
  cases h with
  | here => exact hi
  | step _ a => exact a.mem.2
theorem RchG.trans {tb : Tbs} {R : Rws} {i x y : Str} (a : RchG tb R i x) (b : RchG tb R x y) : RchG tb R i y := by
  induction b with
  | here => exact a
  | step _ d ih => exact .step ih d
theorem RchG.symm {tb : Tbs} {R : Rws} {i x : Str} (a : RchG tb R i x) : RchG tb R x i := by
  induction a with
  | here => exact .here
  | step _ d ih => exact (RchG.step .here d.sym).trans ih
theorem filterMap_len_le {α β : Type} (f : α → Option β) (l : List α) : (l.filterMap f).length ≤ l.length := List.length_filterMap_le f l
theorem nbrs_len {tb : Tbs} {R : Rws} {fs : Flds} {t : Str} {r : Row} (okf : FsOk fs) (oT : TbsOk tb) (oR : RwOk tb R) : (nbrs tb R fs t r).length ≤ 36 := by
  unfold nbrs
  refine Nat.le_trans (filterMap_len_le _ _) ?_
  rw [List.length_append, List.length_map, List.length_flatMap]
  have h1 := fLike_len okf "link"
  have : ∀ l : Tbs, (l.map fun o => (shareIds R (tgNames fs r) o).length).sum ≤ 10 * l.length := by
    intro l
    induction l with
    | nil => simp
    | cons o l ih =>
      rw [List.map_cons, List.sum_cons, List.length_cons]
      have h1 : (shareIds R (tgNames fs r) o).length ≤ 10 := by
        unfold shareIds
        rw [List.length_map]
        have := List.length_filter_le (fun q : Str × Row => shares o.2 (tgNames fs r) q.2) (srtD (tOf R o.1))
        have := tOf_len R o.1
        have := oR.len
        rw [srtD_len] at *
        omega
      omega
  have := this tb
  have := oT.hi
  omega
theorem nbO_len {tb : Tbs} {R : Rws} {x : Str} (oT : TbsOk tb) (oR : RwOk tb R) : (nbO tb R x).length ≤ 36 := by
  unfold nbO
  split
  · split
    · rename_i fs e
      exact nbrs_len (oT.fs e).1 oT oR
    · simp
  · simp
/-- the lists that edges make -/
def lfE (E : List (Str × Str)) (x : Str) : List Str := E.flatMap fun e => (if e.1 = x then [e.2] else []) ++ (if e.2 = x then [e.1] else [])
theorem lfE_snoc (E : List (Str × Str)) (u v x : Str) : lfE (E ++ [(u, v)]) x = lfE E x ++ ((if u = x then [v] else []) ++ (if v = x then [u] else [])) := by
  unfold lfE
  rw [List.flatMap_append]
  simp
theorem lfE_len (E : List (Str × Str)) (x : Str) : (lfE E x).length ≤ 2 * E.length := by
  induction E with
  | nil => simp [lfE]
  | cons e E ih =>
    have h1 : (if e.1 = x then [e.2] else []).length ≤ 1 := by split <;> simp
    have h2 : (if e.2 = x then [e.1] else []).length ≤ 1 := by split <;> simp
    have : lfE (e :: E) x = ((if e.1 = x then [e.2] else []) ++ (if e.2 = x then [e.1] else [])) ++ lfE E x := rfl
    rw [this, List.length_append, List.length_append, List.length_cons]
    omega
theorem lfE_mem {E : List (Str × Str)} {x y : Str} : y ∈ lfE E x ↔ (x, y) ∈ E ∨ (y, x) ∈ E := by
  unfold lfE
  rw [List.mem_flatMap]
  constructor
  · rintro ⟨⟨u, v⟩, h, hy⟩
    rcases List.mem_append.mp hy with hy | hy
    · by_cases e : u = x
      · rw [if_pos e, List.mem_singleton] at hy
        exact .inl (by rw [hy, ← e]; exact h)
      · rw [if_neg e] at hy; cases hy
    · by_cases e : v = x
      · rw [if_pos e, List.mem_singleton] at hy
        exact .inr (by rw [hy, ← e]; exact h)
      · rw [if_neg e] at hy; cases hy
  · rintro (h | h)
    · exact ⟨_, h, List.mem_append_left _ (by simp)⟩
    · exact ⟨_, h, List.mem_append_right _ (by simp)⟩
def edges (tb : Tbs) (R : Rws) (l : List Str) : List (Str × Str) := l.flatMap fun u => (nbO tb R u).map fun v => (u, v)
theorem edges_len {tb : Tbs} {R : Rws} (oT : TbsOk tb) (oR : RwOk tb R) (l : List Str) : (edges tb R l).length ≤ 36 * l.length := by
  unfold edges
  rw [List.length_flatMap]
  induction l with
  | nil => simp
  | cons u l ih =>
    have := nbO_len (x := u) oT oR
    rw [List.map_cons, List.sum_cons, List.length_cons, List.length_map]
    omega
theorem edges_mem {tb : Tbs} {R : Rws} {l : List Str} {x y : Str} : (x, y) ∈ edges tb R l ↔ x ∈ l ∧ y ∈ nbO tb R x := by
  unfold edges
  rw [List.mem_flatMap]
  constructor
  · rintro ⟨u, hu, h⟩
    obtain ⟨v, hv, e⟩ := List.mem_map.mp h
    cases e
    exact ⟨hu, hv⟩
  · rintro ⟨h1, h2⟩
    exact ⟨x, h1, List.mem_map.mpr ⟨y, h2, rfl⟩⟩
def idsS (R : Rws) : List Str := sortS (R.map (·.1))
def nearN (tb : Tbs) (R : Rws) : Nr := (idsS R).map fun x => (x, lfE (edges tb R (idsS R)) x)
theorem nearN_keys (tb : Tbs) (R : Rws) : (nearN tb R).map (·.1) = idsS R := by
  unfold nearN
  rw [List.map_map]
  exact (List.map_congr_left fun _ _ => rfl).trans (List.map_id _)
theorem idsS_mem {R : Rws} {x : Str} : x ∈ idsS R ↔ x ∈ R.map (·.1) := sortS_mem
theorem nearN_val {tb : Tbs} {R : Rws} (nd : (R.map (·.1)).Nodup) {x : Str} {l : List Str} (h : valD (nearN tb R) x = some l) : x ∈ idsS R ∧ ∀ y, y ∈ l ↔ Adj tb R x y := by
  have hm := valD_mem h
  unfold nearN at hm
  obtain ⟨z, hz, e⟩ := List.mem_map.mp hm
  cases e
  refine ⟨hz, fun y => ?_⟩
  rw [lfE_mem, edges_mem, edges_mem]
  constructor
  · rintro (h | h)
    · exact .inl h.2
    · exact .inr h.2
  · rintro (h | h)
    · exact .inl ⟨hz, h⟩
    · exact .inr ⟨idsS_mem.mpr (nbO_in h).2, h⟩
theorem rch_iff {tb : Tbs} {R : Rws} (nd : (R.map (·.1)).Nodup) {i x : Str} : Rch (nearN tb R) i x ↔ RchG tb R i x := by
  constructor
  · intro h
    induction h with
    | here => exact .here
    | step _ e m ih => exact .step ih (((nearN_val nd e).2 _).mp m)
  · intro h
    induction h with
    | here => exact .here
    | step _ a ih =>
      obtain ⟨l, e⟩ := valD_in (l := nearN tb R) (by rw [nearN_keys]; exact idsS_mem.mpr a.mem.1)
      exact .step ih e (((nearN_val nd e).2 _).mpr a)
open Classical in
noncomputable def cmp (tb : Tbs) (R : Rws) (i : Str) : List Str := (idsS R).filter fun x => decide (RchG tb R i x)
theorem cmp_mem {tb : Tbs} {R : Rws} {i x : Str} : x ∈ cmp tb R i ↔ x ∈ R.map (·.1) ∧ RchG tb R i x := by
  unfold cmp
  rw [List.mem_filter, idsS_mem]
  simp
theorem cmp_nodup {tb : Tbs} {R : Rws} (nd : (R.map (·.1)).Nodup) (i : Str) : (cmp tb R i).Nodup := (sortS_nodup nd).filter _
theorem cmp_sorted (tb : Tbs) (R : Rws) (i : Str) : (cmp tb R i).Pairwise fun a b => leS a b = true := List.Pairwise.filter _ (sortS_pw _)
theorem cmp_of {tb : Tbs} {R : Rws} (nd : (R.map (·.1)).Nodup) {i : Str} {L : List Str} (hi : i ∈ R.map (·.1)) (nl : L.Nodup) (h : ∀ x, x ∈ L ↔ RchG tb R i x) : sortS L = cmp tb R i := by
  refine (sortS_eq ?_ (cmp_sorted tb R i)).symm
  refine (List.perm_ext_iff_of_nodup (cmp_nodup nd i) nl).mpr fun x => ?_
  rw [cmp_mem, h]
  exact ⟨fun z => z.2, fun z => ⟨z.mem hi, z⟩⟩
open Classical in
noncomputable def grpsL (tb : Tbs) (R : Rws) (l : List Str) : List (List Str) := l.foldl (fun gs i => if i ∈ gs.flatten then gs else gs ++ [cmp tb R i]) []
theorem grpsL_snoc (tb : Tbs) (R : Rws) (l : List Str) (i : Str) : grpsL tb R (l ++ [i]) = if i ∈ (grpsL tb R l).flatten then grpsL tb R l else grpsL tb R l ++ [cmp tb R i] := by
  unfold grpsL
  rw [List.foldl_append]
  rfl
theorem grpsL_len (tb : Tbs) (R : Rws) (l : List Str) : (grpsL tb R l).length ≤ l.length := by
  refine rev_ind (P := fun l => (grpsL tb R l).length ≤ l.length) (by simp [grpsL]) (fun l q ih => ?_) l
  rw [grpsL_snoc, List.length_append, List.length_singleton]
  split
  · omega
  · rw [List.length_append, List.length_singleton]; omega
noncomputable abbrev groupsD (tb : Tbs) (R : Rws) : List (List Str) := grpsL tb R (idsS R)
def subR (R : Rws) (ids : List Str) : Rws := ids.filterMap fun i => (valD R i).map fun z => (i, z)
theorem subR_snoc {R : Rws} {ids : List Str} {i : Str} {z : Str × Row} (e : valD R i = some z) : subR R (ids ++ [i]) = subR R ids ++ [(i, z)] := by
  unfold subR
  rw [List.filterMap_append, List.filterMap_cons, e]
  rfl
theorem subR_keys {R : Rws} : ∀ {ids : List Str}, (∀ i ∈ ids, i ∈ R.map (·.1)) → (subR R ids).map (·.1) = ids
  | [], _ => rfl
  | i :: ids, h => by
    obtain ⟨z, e⟩ := valD_in (h i List.mem_cons_self)
    have := subR_keys (R := R) (ids := ids) fun j hj => h j (List.mem_cons_of_mem _ hj)
    unfold subR at *
    rw [List.filterMap_cons, e]
    exact congrArg (i :: ·) this
theorem subR_mem {R : Rws} {ids : List Str} {q : Str × (Str × Row)} : q ∈ subR R ids → q.1 ∈ ids ∧ q ∈ R := fun h => by
  obtain ⟨i, hi, e⟩ := List.mem_filterMap.mp h
  obtain ⟨z, e1, e2⟩ := Option.map_eq_some_iff.mp e
  subst e2
  exact ⟨hi, valD_mem e1⟩
theorem subR_ok {tb : Tbs} {R : Rws} (h : RwOk tb R) {ids : List Str} (nd : ids.Nodup) (hi : ∀ i ∈ ids, i ∈ R.map (·.1)) : RwOk tb (subR R ids) where
  nd := by rw [subR_keys hi]; exact nd
  nm := fun q hq => h.nm q (subR_mem hq).2
  ok := fun q hq => h.ok q (subR_mem hq).2
  len := by
    have := congrArg List.length (subR_keys hi)
    rw [List.length_map] at this
    rw [this]
    have := nodup_len nd hi
    rw [List.length_map] at this
    exact Nat.le_trans this h.len
end K25

/-! F20 -/
namespace K25
open PySem PySem.Spec PyProof.Rows L2
/-! ### apart -/
structure Pt where
  a : Addr
  k : Addr
  ad : Str → Addr
def PtAt (C : Addr) (H0 G H : Hp) (s : Addr) (tb : Tbs) (R : Rws) (p : Pt) (g : List Str) : Prop := TabX C G H p.a s tb (subR R g) p.k p.ad ∧ AdO H0 G p.ad tb
theorem putK_len (c : List (Key × V)) (k : Key) (x : V) : (putK c k x).length ≤ c.length + 1 := by
  unfold putK
  split
  · rw [List.length_map]; omega
  · rw [List.length_append, List.length_singleton]; omega
section
variable {C : Addr} {H0 G H G' H' : Hp} {s : Addr} {tb : Tbs} {R : Rws} {p : Pt} {g : List Str} {M : List Addr}
theorem AdO.mut {ad : Str → Addr} {a k : Addr} {R : Rws} (h : AdO H0 G ad tb) (hT : TabX C G H a s tb R k ad) (hM : ∀ t ∈ tb.map (·.1), ad t ∉ M) (st : Stp G (wo M H) G' H') : AdO H0 G' ad tb :=
  ⟨h.h0, fun t ht => st.new _ (h.g t ht) (by obtain ⟨kvs, e, _⟩ := hT.inn t ht; rw [wo_out (hM t ht), e]; simp), h.inj⟩
theorem TabX.mut {ad : Str → Addr} {a k : Addr} {R : Rws} (hT : TabX C G H a s tb R k ad) (hM : ∀ t ∈ tb.map (·.1), ad t ∉ M) (st : Stp G (wo M H) G' H') : TabX C G' H' a s tb R k ad :=
  hT.mono st.ex fun t ht o e => st.keep _ _ (by rw [wo_out (hM t ht)]; exact e)
theorem PtAt.mut (h : PtAt C H0 G H s tb R p g) (hM : ∀ t ∈ tb.map (·.1), p.ad t ∉ M) (st : Stp G (wo M H) G' H') : PtAt C H0 G' H' s tb R p g := ⟨h.1.mut hM st, h.2.mut h.1 hM st⟩
theorem TabX.grow {ad : Str → Addr} {a k : Addr} {R : Rws} (hT : TabX C G H a s tb R k ad) (e : Same H H') : TabX C G H' a s tb R k ad := hT.mono (Same.refl _) fun _ _ _ z => e _ _ z
theorem PtAt.grow (h : PtAt C H0 G H s tb R p g) (e : Same H H') : PtAt C H0 G H' s tb R p g := ⟨h.1.grow e, h.2⟩
theorem wo_nil (H : Hp) : wo [] H = H := funext fun b => by unfold wo; rw [if_neg (by simp)]
theorem PtAt.step (h : PtAt C H0 G H s tb R p g) (st : Stp G H G' H') : PtAt C H0 G' H' s tb R p g := h.mut (M := []) (fun _ _ => by simp) (by rw [wo_nil]; exact st)
/-- one of one's own is written: all else goes on -/
theorem Own.stp {q : Addr} {o u : HO} (w : Own H0 G q H o) (s : Sub G H) (e : Same H H') : Stp G (wo [q] H) G (upd H' q u) := ((Stp.wo s).grow e).writeO (o := o) ⟨wo_in (List.mem_singleton.mpr rfl), w.g, e _ _ w.at_⟩
end
section
variable {P : Program} {w : World} {K : PySem.W.Frag} {mg : Str → Option Value} {base : Heap} {σ : L2.St} {G H : Hp} {D : Ends} {rest : TS}
/-- x = Tables(schema) -/
theorem q_setTab {CS CT : Addr} {te : TE} {E : XK} {i : Nat} {sc : Addr} {tb : Tbs} {rs : List Rul} (s : Sub G H) (hv : Gv te σ G (.ref sc)) (hS : SchAt CS G sc tb rs) (oT : TbsOk tb)
    (k : ∀ x k ad G' H', Stp G H G' H' → TabX CT G' H' x sc tb [] k ad → AdO H G' ad tb → rest D (σ.set i (some (.ref x))) H') : tSeq (tAsg (tMake CT (spTabInit CS CT) [] E (tCons te tNil)) (gName i)) rest D σ H :=
  hv H s _ fun H1 e1 => fun x dx hx hdx ne => by
    have hdx' : (upd H1 dx (.own x)) x = none := by rw [upd_ne (Ne.symm ne)]; exact hx
    refine ⟨x, sc, dx, tb, rs, G, H1, rfl, s.same e1, (Same.put hdx).trans (Same.put hdx'), hx, upd_same, hS, oT, fun G' H' kk ad st w hk ado had => ⟨rfl, ?_⟩⟩
    have st' := Stp.pre e1 st
    have told := st'.tell w.g (e1.free w.h0) w.at_
    refine k x kk ad _ H' told ⟨⟨dx, upd_same⟩, Same.put w.g _ _ hk, fun t ht => ⟨[], (had t ht).1, .nil⟩⟩ ⟨fun t ht => e1.free (ado.h0 t ht), fun t ht => by rw [upd_ne (had t ht).2]; exact ado.g t ht, ado.inj⟩
/-- x[t, i] = a[t, i] -/
theorem s_asgTab {CS CT : Addr} {t0 t6 t7 t8 : TE} {a s x kk k' : Addr} {ad ad' : Str → Addr} {tb : Tbs} {rs : List Rul} {R R' : Rws} {t i : Str} {fs : Flds} {r : Row} (sG : Sub G H) (hT : TabX CT G G a s tb R kk ad) (ht : t ∈ tb.map (·.1)) (eR : valD (tOf R t) i = some r)
    (h0 : Gv t0 σ G (.ref a)) (h6 : ∀ G', Same G G' → Gv t6 σ G' (.ref x)) (h8 : ∀ G', Same G G' → Gv t8 σ G' (.str t)) (h7 : ∀ G', Same G G' → Gv t7 σ G' (.str i)) (hT' : TabX CT G H x s tb R' k' ad') (ado : AdO H0 G ad' tb) (hS : SchAt CS G s tb rs) (oT : TbsOk tb) (cT : CanT tb) (oR' : RwOk tb R')
    (e1 : valD tb t = some fs) (oC : RowC fs r) (nI : Nm i) (hI : ∀ q ∈ R', q.1 = i → q.2.1 = t)
    (k : ∀ G' H', Stp G (wo [ad' t] H) G' H' → AdO H0 G' ad' tb → TabX CT G' H' x s tb (putD R' i (t, r)) k' ad' → D.nx σ H') : tAsg (tOp (rIxOwn CT (spGetItem CT)) t0 (tTup (tCons t8 (tCons t7 tNil)))) (gSub t6 (tTup (tCons t8 (tCons t7 tNil))) (rSetOwn CT (spSetItem CS CT))) D σ H := by
  obtain ⟨dx, hi⟩ := hT.ins
  obtain ⟨dx', hi'⟩ := hT'.ins
  have val : Gn (.dK (rowK r)) (tOp (rIxOwn CT (spGetItem CT)) t0 (tTup (tCons t8 (tCons t7 tNil)))) σ G :=
    gn_opN2 (m2 := .dK (rowK r)) (mk := .tup [.str t, .str i]) h0 (gu_tup (ga_cons (h8 _ (Same.refl _)) (ga_cons (h7 _ (Same.refl _)) ga_nil)) (few rfl)) fun q hq H sb Q k' => ⟨a, dx, _, rfl, sb.ins (Same.put hq _ _ hi), a, q, t, i, r, s, tb, R, kk, ad, upd G q (.tup [.str t, .str i]), rfl, sb, upd_same, hT.mono (Same.put hq) fun _ _ _ h => Same.put hq _ _ h, ht, eR, k'⟩
  refine val H sG _ fun b H1 e1' hb hb' => ?_
  have gb := sG.non hb
  have wob : ∀ {c}, H c = none → wo [ad' t] H c = none := fun {c} h => by unfold wo; split <;> first | rfl | exact h
  have stb : Stp G (wo [ad' t] H) (upd G b (.dK (rowK r))) H1 := ((Stp.wo sG).grow e1').tell gb (wob hb) hb'
  have eb : Same G (upd G b (.dK (rowK r))) := Same.put gb
  refine h6 _ eb H1 stb.sub _ fun H2 e2 => ?_
  have tup : Gu (tTup (tCons t8 (tCons t7 tNil))) σ (upd G b (.dK (rowK r))) [.str t, .str i] := gu_tup (ga_cons (h8 _ eb) (ga_cons (h7 _ eb) ga_nil)) (few rfl)
  refine tup H2 (stb.sub.same e2) _ fun p H3 e3 hp hp' => ?_
  have e03 := (e1'.trans e2).trans e3
  have st2 := (stb.grow e2)
  have gp := st2.sub.non hp
  have hp0 : H p = none := (e1'.trans e2).free hp
  have st3 : Stp G (wo [ad' t] H) (upd (upd G b (.dK (rowK r))) p (.tup [.str t, .str i])) H3 := (st2.grow e3).tell gp (wob hp0) hp'
  have nn : ∀ u ∈ tb.map (·.1), H (ad' u) ≠ none := fun u hu => by obtain ⟨kvs, e, _⟩ := hT'.inn u hu; rw [e]; simp
  have np : ∀ u ∈ tb.map (·.1), ad' u ≠ p ∧ ad' u ≠ b := fun u hu => ⟨fun z => nn u hu (by rw [z]; exact hp0), fun z => nn u hu (by rw [z]; exact hb)⟩
  have hg3 : ∀ u ∈ tb.map (·.1), (upd (upd G b (.dK (rowK r))) p (.tup [.str t, .str i])) (ad' u) = none := fun u hu => by
    rw [upd_ne (np u hu).1, upd_ne (np u hu).2]
    exact ado.g u hu
  have hT3 : TabX CT (upd (upd G b (.dK (rowK r))) p (.tup [.str t, .str i])) H3 x s tb R' k' ad' := hT'.mono st3.ex fun u hu o e => e03 _ _ e
  have pb : b ≠ p := fun z => by rw [← z, e2 _ _ hb'] at hp; cases hp
  refine ⟨x, dx', _, rfl, st3.sub.ins (st3.ex _ _ hi'), x, p, b, t, i, r, fs, s, tb, rs, R', k', ad', _, rfl, st3.sub, upd_same, by rw [upd_ne pb]; exact upd_same, hT3, hg3, hS.mono st3.ex, oT, cT, oR', e1, oC, nI, hI, fun G' H' st hg2 hk => ?_⟩
  have stF := st3.mut (fun m hm => wo_in hm) st
  refine k G' H' stF ⟨ado.h0, fun u hu => ?_, ado.inj⟩ (hT'.put ht ado.inj hI stF hk)
  by_cases eu : u = t
  · subst eu; exact hg2
  · refine stF.new _ (ado.g u hu) ?_
    rw [wo_out (by simpa using fun z => eu (ado.inj u hu t ht z))]
    exact nn u hu
end
/-- the lists of the near ones, one's own -/
def NrO (H0 G H : Hp) (ids : List Str) (ad : Str → Addr) (f : Str → List Str) : Prop := ∀ x ∈ ids, Own H0 G (ad x) H (sL (f x))
theorem NrO.add {H0 G H : Hp} {ids : List Str} {ad : Str → Addr} {f : Str → List Str} (h : NrO H0 G H ids ad f) (inj : ∀ x ∈ ids, ∀ y ∈ ids, ad x = ad y → x = y) {u v : Str} (hu : u ∈ ids) : NrO H0 G (upd H (ad u) (.lst ((f u).map V.str ++ [V.str v]))) ids ad fun x => f x ++ (if u = x then [v] else []) := fun x hx => by
  by_cases e : u = x
  · subst e
    refine ⟨(h u hx).h0, (h u hx).g, ?_⟩
    show _ = some (sL (f u ++ if u = u then [v] else []))
    rw [upd_same, if_pos rfl]
    show _ = some (HO.lst ((f u ++ [v]).map V.str))
    rw [List.map_append]
    rfl
  · refine ⟨(h x hx).h0, (h x hx).g, ?_⟩
    show _ = some (sL (f x ++ if u = x then [v] else []))
    rw [upd_ne fun z => e (inj _ hu _ hx z.symm), (h x hx).at_, if_neg e, List.append_nil]
section
variable {P : Program} {w : World} {K : PySem.W.Frag} {mg : Str → Option Value} {base : Heap}
def spApart (CS CT : Addr) : Sp := fun vs H Q _ => ∃ a s tb rs R k ad G, vs = [.ref a] ∧ Sub G H ∧ TabX CT G G a s tb R k ad ∧ SchAt CS G s tb rs ∧ TbsOk tb ∧ CanT tb ∧ RwOk tb R ∧
  ∀ p G' H' pts, Stp G H G' H' → Own H G' p H' (.lst (pts.map fun q : Pt => V.ref q.a)) → All2 (PtAt CT H G' H' s tb R) pts (groupsD tb R) → Q (.ref p) H'
abbrev N_apart : List Str := ["tables", "near", "ident", "other", "found", "done", "part", "one", "table"]
theorem sc_apart : FnScope N_apart ["tables"] (defScope s_apart) := ⟨rfl, rfl, rfl, by decide +kernel, rfl, by decide +kernel, by decide +kernel⟩
-- slots: 0 tables, 1 near, 2 ident, 3 other, 4 found, 5 done, 6 part, 7 one, 8 table
theorem c_apart (T : Tx K mg) : Cal P w K mg base 6 "apart" (spApart (He.ga K "Schema") (He.ga K "Tables")) := by
  refine ⟨_, _, ["tables"], fn_body T.f_apart sc_apart (fun vs H Q E h => by obtain ⟨_, _, _, _, _, _, _, _, rfl, _⟩ := h; rfl) (fun cdv A outer s H vs Q E hr h => ?_), T.g_apart, T.f_apart.kp, T.f_apart.bindsN fun _ _ _ _ _ _ us hl => match us, hl with | [_], _ => rfl⟩
  obtain ⟨a, s', tb, rs, R, kk, ad, G, rfl, sG, hT, hS, oT, cT, oR, k⟩ := h
  have hu := hu_of hr
  refine ⟨_,
    (pss_cons (ps_setDc (i := 1) rfl sc_apart.nd rfl rfl (swD_true rfl rfl rfl (by decide +kernel)) (pi_listK rfl (pe_met0 (c_Tables_ids T) hr (by decide) (pv 0))) (blkOk_by (own := [("ident", 2)]) (N := N_apart) (sc := defScope s_apart) (by decide +kernel)) (fun _ _ _ _ _ => (pg_name (i := 2) sc_apart.nd rfl (Or.inl rfl))) (fun _ _ _ _ _ => pts_nil) (fun _ _ _ _ _ => (pv 2)) (fun _ _ _ _ _ => (pe_lst pa_nil)))
    (pss_cons (ps_for PassesOwn.never rfl (pi_listK rfl (pe_met0 (c_Tables_ids T) hr (by decide) (pv 0))) (pg_name (i := 2) sc_apart.nd rfl (Or.inl rfl))
      (pss_one (ps_for PassesOwn.never rfl (pi_listK rfl (pe_cal (c_neighbours T) hr (by decide) rfl (pa_cons (pv 0) (pa_cons (pv 2) pa_nil)))) (pg_name (i := 3) sc_apart.nd rfl (Or.inl rfl))
        (pss_cons (ps_expr (pe_bmK rfl PySem.F.plainAttrs_list PySem.F.slot_list_append PySem.F.type_list_append mt_append (pe_dget hu (pv 1) (pv 2) (fun _ _ => rfl)) (pa_cons (pv 3) pa_nil)))
        (pss_one (ps_expr (pe_bmK rfl PySem.F.plainAttrs_list PySem.F.slot_list_append PySem.F.type_list_append mt_append (pe_dget hu (pv 1) (pv 3) (fun _ _ => rfl)) (pa_cons (pv 2) pa_nil))))))))
    (pss_cons (ps_par (i := 4) (j := 5) (by rfl) sc_apart.nd rfl rfl (by decide) rfl rfl (pa_cons (pe_lst pa_nil) (pa_cons pe_dnewK pa_nil)) (by rfl))
    (pss_cons (ps_for PassesOwn.never rfl (pi_listK rfl (pe_met0 (c_Tables_ids T) hr (by decide) (pv 0))) (pg_name (i := 2) sc_apart.nd rfl (Or.inl rfl))
      (pss_one (ps_if (pt_cmp (pc_dnotin hu (pv 2) (pv 5)))
        (pss_cons (ps_set (i := 6) sc_apart.nd rfl (Or.inl rfl) (pe_mak (k_Tables T) hr (by decide) rfl (pa_cons (pe_propR (c_Tables_schema T) hr (by decide) (pv 0) rfl) pa_nil)))
        (pss_cons (ps_for PassesOwn.never rfl (pi_listK rfl (pe_cal (c_reached T) hr (by decide) rfl (pa_cons (pv 1) (pa_cons (pv 2) pa_nil)))) (pg_name (i := 7) sc_apart.nd rfl (Or.inl rfl))
          (pss_cons (ps_dput hu (pv 5) (pv 7) pe_bl rfl)
          (pss_cons (ps_set (i := 8) sc_apart.nd rfl (Or.inl rfl) (pe_met (c_Tables_table_of T) hr (by decide) (pv 0) (pa_cons (pv 7) pa_nil)))
          (pss_one (ps_asg (ix_own (c_Tables_getitem T) hr (by decide) T.fn_getitem (pv 0) (pe_tup (pa_cons (pv 8) (pa_cons (pv 7) pa_nil)))) (pg_sub (pv 6) (pe_tup (pa_cons (pv 8) (pa_cons (pv 7) pa_nil))) (set_own (c_Tables_setitem T) hr (by decide) T.noSeq)))))))
        (pss_one (ps_expr (pe_bmK rfl PySem.F.plainAttrs_list PySem.F.slot_list_append PySem.F.type_list_append mt_append (pv 4) (pa_cons (pv 6) pa_nil))))))
        pss_nil)))
    (pss_one (ps_ret (pv 4))))))), ?_⟩
  obtain ⟨dx, hi⟩ := id hT.ins
  have nd := oR.nd
  have ndS : (idsS R).Nodup := sortS_nodup nd
  have l10 : (idsS R).length ≤ 10 := by unfold idsS; rw [sortS_len, List.length_map]; exact oR.len
  refine q_of ?_
  show tDc _ _ _ _ _ _ _ _ _
  refine gm_dcL (ds := idsS R) (up := upN 2 V.str) (fun t => Sum.inr t) sG (gi_listN (emb := V.str) (gn_meth (gv_var rfl) hi rfl ga_nil (sp_ids hT oT oR))) (by omega) (fun _ _ => rfl) (List.pairwise_map.mpr (ndS.imp fun h z => h (Sum.inr.inj z))) (fun t ht G' e => gv_var rfl) fun E ps G1 H1 s1 hE gE hE1 hl np hps => ?_
  have hE2 : H1 E = some (.dK ((idsS R).map fun t => (Sum.inr t, V.ref (adBy (idsS R) ps t)))) := by rw [hE1, adBy_zip ndS hl]
  have nE : ∀ x ∈ idsS R, adBy (idsS R) ps x ≠ E := fun x hx => (hps _ (adBy_mem ndS hl hx)).2.2.2
  have inj : ∀ x ∈ idsS R, ∀ y ∈ idsS R, adBy (idsS R) ps x = adBy (idsS R) ps y → x = y := fun x hx y hy e => adBy_inj ndS np hl hx hy e
  have st2 : Stp G H (upd G1 E (.dK ((idsS R).map fun t => (Sum.inr t, V.ref (adBy (idsS R) ps t))))) H1 := s1.tell gE hE hE2
  have nr0 : NrO H (upd G1 E (.dK ((idsS R).map fun t => (Sum.inr t, V.ref (adBy (idsS R) ps t))))) H1 (idsS R) (adBy (idsS R) ps) (lfE []) := fun x hx => by
    obtain ⟨a1, a2, a3, a4⟩ := hps _ (adBy_mem ndS hl hx)
    exact ⟨a1, by rw [upd_ne a4]; exact a2, a3⟩
  have hEG : (upd G1 E (.dK ((idsS R).map fun t => (Sum.inr t, V.ref (adBy (idsS R) ps t))))) E = some (.dK ((idsS R).map fun t => (Sum.inr t, V.ref (adBy (idsS R) ps t)))) := upd_same
  have vE : ∀ x ∈ idsS R, valV ((idsS R).map fun t => ((Sum.inr t : Key), V.ref (adBy (idsS R) ps t))) (Sum.inr x) = some (.ref (adBy (idsS R) ps x)) := fun x hx => valV_of_nodup (by rw [List.map_map]; exact List.pairwise_map.mpr (ndS.imp fun h z => h (Sum.inr.inj z))) (List.mem_map.mpr ⟨x, hx, rfl⟩)
  clear hps hE1 hE2
  generalize adBy (idsS R) ps = an at *
  generalize hKV : ((idsS R).map fun t => ((Sum.inr t : Key), V.ref (an t))) = kvE at *
  generalize upd G1 E (.dK kvE) = G2 at *
  replace hT := hT.mono st2.ex fun _ _ _ h => st2.ex _ _ h
  replace hS := hS.mono st2.ex
  replace hi := st2.ex _ _ hi
  have hid : ∀ x ∈ idsS R, ∃ t r fs, (x, (t, r)) ∈ R ∧ valD tb t = some fs ∧ RowC fs r ∧ nbO tb R x = nbrs tb R fs t r ∧ valD R x = some (t, r) := fun x hx => by
    obtain ⟨⟨t, r⟩, e⟩ := valD_in (idsS_mem.mp hx)
    obtain ⟨fs, e2, oC⟩ := oR.ok _ (valD_mem e)
    exact ⟨t, r, fs, valD_mem e, e2, oC, by unfold nbO; rw [e]; simp only [e2], e⟩
  have eL : ∀ l : List Str, l.length ≤ 10 → (edges tb R l).length ≤ 360 := fun l h => by
    have := edges_len oT oR l
    omega
  -- who is near whom
  refine q_of (s_for (Pre := Fr0) (G0 := G) (H0 := H) (ds := idsS R) (up := upN 2 V.str) (Iv := fun (i : Nat) σ2 G5 H5 => (∃ v2 v3, σ2 = [some (.ref a), some (.ref E), v2, v3, none, none, none, none, none]) ∧ Same G2 G5 ∧ NrO H G5 H5 (idsS R) an (lfE (edges tb R ((idsS R).take i))))
    st2 (gi_listN (emb := V.str) (gn_meth (gv_var rfl) hi rfl ga_nil (sp_ids hT oT oR))) trivial (fun _ _ _ _ _ e h => ⟨h.1, h.2.1, fun x hx => (h.2.2 x hx).grow e⟩) (fun G5 H5 s5 => ⟨⟨_, _, rfl⟩, s5.ex, fun x hx => (nr0 x hx).step s5⟩) (fun G5 H5 s5 i x hx σ2 G6 H6 lp iv => ?_) fun G6 H6 σ2 lp iv => ?_)
  · obtain ⟨⟨v2, v3, rfl⟩, eG, nr⟩ := iv
    have xm := List.mem_of_getElem? hx
    obtain ⟨t, r, fs, hm, e1, oC, eN, _⟩ := hid x xm
    have hT6 := hT.mono eG fun _ _ _ h => eG _ _ h
    have hS6 := hS.mono eG
    refine (s_for (Pre := Fr0) (G0 := G) (H0 := H) (ds := nbO tb R x) (up := upN 3 V.str) (Iv := fun (j : Nat) σ2 G5 H5 => (∃ v3, σ2 = [some (.ref a), some (.ref E), some (.str x), v3, none, none, none, none, none]) ∧ Same G2 G5 ∧ NrO H G5 H5 (idsS R) an (lfE (edges tb R ((idsS R).take i) ++ ((nbO tb R x).take j).map fun v => (x, v))))
      lp.st (gi_listN (emb := V.str) (by rw [eN]; exact gn_call (ga_cons (gv_var rfl) (ga_cons (gv_var rfl) ga_nil)) fun H sb Q E q => ⟨a, x, t, r, fs, s', tb, rs, R, kk, ad, G6, rfl, sb, hT6, hS6, oT, oR, hm, e1, q⟩)) trivial (fun _ _ _ _ _ e h => ⟨h.1, h.2.1, fun x hx => (h.2.2 x hx).grow e⟩) (fun G5 H5 s5 => ⟨⟨_, rfl⟩, eG.trans s5.ex, fun y hy => ?_⟩) (fun G5 H5 s5 j y hy σ2 G7 H7 lp7 iv => ?_) fun G7 H7 σ2 lp7 iv => ?_)
    · rw [List.take_zero, List.map_nil, List.append_nil]
      exact (nr y hy).step s5
    · obtain ⟨⟨v3, rfl⟩, eG7, nr7⟩ := iv
      have ym : y ∈ idsS R := idsS_mem.mpr (nbO_in (List.mem_of_getElem? hy)).1
      have hE7 := eG7 _ _ hEG
      have ltk : ((idsS R).take i).length ≤ 10 := by rw [List.length_take]; omega
      have l1 := eL _ ltk
      have ln : ((nbO tb R x).take j).length ≤ 36 := Nat.le_trans (by rw [List.length_take]; exact Nat.min_le_right _ _) (nbO_len oT oR)
      have lf : ∀ z, (lfE (edges tb R ((idsS R).take i) ++ ((nbO tb R x).take j).map fun v => (x, v)) z).length ≤ 800 := fun z => by
        have := lfE_len (edges tb R ((idsS R).take i) ++ ((nbO tb R x).take j).map fun v => (x, v)) z
        rw [List.length_append, List.length_map] at this
        omega
      refine q_of (s_append lp7.st.sub (gv_dget (k := Sum.inr x) (gv_var rfl) (gv_var rfl) hE7 (vE x xm)) (gv_var rfl) (nr7 x xm).at_ (by rw [List.length_map, sizeLine_eq]; have := lf x; omega) fun H8 e8 => ?_)
      have nr8 : NrO H G7 H8 (idsS R) an _ := fun z hz => (nr7 z hz).grow e8
      have lp9 := (lp7.grow e8).write (u := .lst ((lfE (edges tb R ((idsS R).take i) ++ ((nbO tb R x).take j).map fun v => (x, v)) x).map V.str ++ [V.str y])) (nr8 x xm) (by simp)
      have nr9 := nr8.add (v := y) inj xm
      refine s_append lp9.st.sub (gv_dget (k := Sum.inr y) (gv_var rfl) (gv_var rfl) hE7 (vE y ym)) (gv_var rfl) (nr9 y ym).at_ (by rw [List.length_map, sizeLine_eq, List.length_append]; have := lf y; have h1 : (if x = y then [y] else []).length ≤ 1 := (by split <;> simp); omega) fun H10 e10 => ?_
      have nr10 : NrO H G7 H10 (idsS R) an _ := fun z hz => (nr9 z hz).grow e10
      refine ⟨G7, (lp9.grow e10).write (nr10 y ym) (by simp), ⟨_, rfl⟩, eG7, fun z hz => ?_⟩
      have := nr10.add (v := x) inj ym z hz
      have eq : lfE (edges tb R ((idsS R).take i) ++ ((nbO tb R x).take j ++ [y]).map fun v => (x, v)) z = (lfE (edges tb R ((idsS R).take i) ++ ((nbO tb R x).take j).map fun v => (x, v)) z ++ (if x = z then [y] else [])) ++ (if y = z then [x] else []) := by
        rw [List.map_append, ← List.append_assoc, show List.map (fun v => (x, v)) [y] = [(x, y)] from rfl, lfE_snoc, List.append_assoc]
      rw [take_snoc hy, eq]
      exact this
    · obtain ⟨⟨v3, rfl⟩, eG7, nr7⟩ := iv
      rw [List.take_length] at nr7
      refine ⟨G7, ⟨lp7.st, lp.ex.trans lp7.ex, fun a ob u h => lp7.fz a ob u (lp.fz a ob u h)⟩, ⟨_, _, rfl⟩, eG7, fun z hz => ?_⟩
      · rw [take_snoc hx]
        unfold edges
        rw [List.flatMap_append]
        have := nr7 z hz
        unfold edges at this
        simpa using this
  obtain ⟨⟨v2, v3, rfl⟩, eG, nr⟩ := iv
  rw [List.take_length] at nr
  have hM0 : ∀ m ∈ (idsS R).map an, H m = none := fun m hm => by obtain ⟨x, hx, rfl⟩ := List.mem_map.mp hm; exact (nr x hx).h0
  have hMg : ∀ m ∈ (idsS R).map an, G6 m = none := fun m hm => by obtain ⟨x, hx, rfl⟩ := List.mem_map.mp hm; exact (nr x hx).g
  have st3 : Stp G H (tel G6 H6 ((idsS R).map an)) H6 := lp.st.telM hM0 hMg
  have e3 : Same G2 (tel G6 H6 ((idsS R).map an)) := eG.trans (tel_same hMg)
  have hPr : PrD nrR (tel G6 H6 ((idsS R).map an)) kvE (nearN tb R) := by
    rw [← hKV]
    exact All2.of_map fun x hx => ⟨rfl, an x, rfl, by rw [tel_in (List.mem_map.mpr ⟨x, hx, rfl⟩)]; exact (nr x hx).at_⟩
  replace hT := hT.mono e3 fun _ _ _ h => e3 _ _ h
  replace hS := hS.mono e3
  replace hi := e3 _ _ hi
  replace hEG := e3 _ _ hEG
  clear e3 eG nr nr0 lp hM0 hMg vE st2 s1
  generalize tel G6 H6 ((idsS R).map an) = G3 at *
  have nk : ∀ x l y, valD (nearN tb R) x = some l → y ∈ l → y ∈ (nearN tb R).map (·.1) := fun x l y e m => by
    rw [nearN_keys]
    exact idsS_mem.mpr ((nearN_val nd e).2 y |>.mp m).mem.2
  have nl10 : (nearN tb R).length ≤ 10 := by unfold nearN; rw [List.length_map]; exact l10
  dsimp only
  refine q_parNN (m1 := .lst []) (m2 := .dK []) st3.sub (gl_lst ga_nil (by decide)) gd_new fun fd dn H7 e7 hf hd nfd hf' hd' => ?_
  have ofd : Own H G3 fd H7 (.lst []) := .made st3 e7 hf hf'
  have odn : Own H G3 dn H7 (.dK []) := .made st3 e7 hd hd'
  have st7 := st3.grow e7
  have keys_l : ∀ {p : Pt} {g : List Str} {G5 H5 : Hp} {x : Addr}, PtAt (He.ga K "Tables") H G5 H5 s' tb R p g → H5 x = none → ∀ t ∈ tb.map (·.1), p.ad t ≠ x := fun h hx t ht z => by
    obtain ⟨kvs, e, _⟩ := h.1.inn t ht
    rw [z, hx] at e
    cases e
  refine q_of (s_for (Pre := Fr0) (G0 := G) (H0 := H) (ds := idsS R) (up := upN 2 V.str) (Iv := fun (i : Nat) σ2 G5 H5 => ∃ v2 v3 v6 v7 v8 pts dk, σ2 = [some (.ref a), some (.ref E), v2, v3, some (.ref fd), some (.ref dn), v6, v7, v8] ∧ Same G3 G5 ∧ Own H G5 fd H5 (.lst (pts.map fun q : Pt => V.ref q.a)) ∧ Own H G5 dn H5 (.dK dk) ∧ dk.length ≤ 10 * i ∧
      (∀ x, (valV dk (Sum.inr x)).isSome = decide (x ∈ (grpsL tb R ((idsS R).take i)).flatten)) ∧ All2 (PtAt (He.ga K "Tables") H G5 H5 s' tb R) pts (grpsL tb R ((idsS R).take i)) ∧ ∀ q ∈ pts, ∀ t ∈ tb.map (·.1), q.ad t ≠ fd ∧ q.ad t ≠ dn)
    st7 (gi_listN (emb := V.str) (gn_meth (gv_var rfl) hi rfl ga_nil (sp_ids hT oT oR))) trivial (by
      rintro _ _ _ _ _ e ⟨v2, v3, v6, v7, v8, pts, dk, h1, h2, h3, h4, h5, h6, h7, h8⟩
      exact ⟨v2, v3, v6, v7, v8, pts, dk, h1, h2, h3.grow e, h4.grow e, h5, h6, h7.imp fun _ _ _ _ h => h.grow e, h8⟩)
    (fun G5 H5 s5 => ⟨_, _, _, _, _, [], [], rfl, s5.ex, ofd.step s5, odn.step s5, by simp, fun x => by simp [grpsL, valV], .nil, fun q hq => by cases hq⟩) (fun G5 H5 s5 i x hx σ2 G8 H8 lp iv => ?_) fun G8 H8 σ2 lp iv => ?_)
  · obtain ⟨v2, v3, v6, v7, v8, pts, dk, rfl, eG, own, odk, ldk, hdk, al, neq⟩ := iv
    have xm := List.mem_of_getElem? hx
    have told := lp.st.tell odk.g odk.h0 odk.at_
    have ilt : i < 10 := by
      rcases Nat.lt_or_ge i (idsS R).length with h | h
      · omega
      · rw [List.getElem?_eq_none h] at hx; cases hx
    refine s_if told.sub (b := !(valV dk (Sum.inr x)).isSome) (gt_test (gv_dnotin (k := Sum.inr x) (gv_var rfl) (gv_var rfl) upd_same)) (fun hn H9 e9 => ?_) fun hn H9 e9 => ?_
    · have nx : x ∉ (grpsL tb R ((idsS R).take i)).flatten := by
        rw [hdk] at hn
        simpa using hn
      have eg : grpsL tb R ((idsS R).take (i + 1)) = grpsL tb R ((idsS R).take i) ++ [cmp tb R x] := by rw [take_snoc hx, grpsL_snoc, if_neg nx]
      rw [eg]
      have hgl : (grpsL tb R ((idsS R).take i)).length ≤ i := Nat.le_trans (grpsL_len _ _ _) (by rw [List.length_take]; exact Nat.min_le_left _ _)
      generalize grpsL tb R ((idsS R).take i) = gs at *
      have lp9 := lp.grow e9
      replace own := own.grow e9
      replace odk := odk.grow e9
      replace al := al.imp fun _ _ _ _ h => PtAt.grow h e9
      have hT8 := hT.mono eG fun _ _ _ h => eG _ _ h
      have hS8 := hS.mono eG
      refine q_setTab lp9.st.sub (gv_sch T hT8 (gv_var rfl)) hS8 oT fun xa kc adc G10 H10 s10 hTc adO => ?_
      have lp10 := lp9.step s10
      have adF : AdO H G10 adc tb := ⟨fun t ht => lp9.st.keep.free (adO.h0 t ht), adO.g, adO.inj⟩
      have aFd : ∀ t ∈ tb.map (·.1), adc t ≠ fd ∧ adc t ≠ dn := fun t ht => ⟨fun z => (by have := adO.h0 t ht; rw [z, own.at_] at this; cases this), fun z => (by have := adO.h0 t ht; rw [z, odk.at_] at this; cases this)⟩
      have aPt : ∀ q ∈ pts, ∀ t ∈ tb.map (·.1), ∀ u ∈ tb.map (·.1), q.ad t ≠ adc u := fun q hq t ht u hu => by
        obtain ⟨g, _, h⟩ := al.mem1 hq
        exact keys_l h (adO.h0 u hu) t ht
      replace own := own.step s10
      replace odk := odk.step s10
      replace al := al.imp fun _ _ _ _ h => PtAt.step h s10
      have eG10 := eG.trans s10.ex
      have hE10 := eG10 _ _ hEG
      have hPr10 := hPr.mono nrR_mono eG10
      have xi : x ∈ R.map (·.1) := idsS_mem.mp xm
      have cin : ∀ y ∈ cmp tb R x, y ∈ R.map (·.1) := fun y hy => (cmp_mem.mp hy).1
      have cnd := cmp_nodup (tb := tb) nd x
      have c10 : (cmp tb R x).length ≤ 10 := Nat.le_trans (nodup_len cnd cin) (by rw [List.length_map]; exact oR.len)
      have cur10 : PtAt (He.ga K "Tables") H G10 H10 s' tb R ⟨xa, kc, adc⟩ [] := ⟨hTc, adF⟩
      have l10p : pts.length = gs.length := al.length
      refine q_of (s_for (Pre := Fr0) (G0 := G) (H0 := H) (ds := cmp tb R x) (up := upN 7 V.str) (Iv := fun (j : Nat) σ2 G5 H5 => ∃ v3 v7 v8 dk', σ2 = [some (.ref a), some (.ref E), some (.str x), v3, some (.ref fd), some (.ref dn), some (.ref xa), v7, v8] ∧ Same G3 G5 ∧ Own H G5 fd H5 (.lst (pts.map fun q : Pt => V.ref q.a)) ∧ Own H G5 dn H5 (.dK dk') ∧ dk'.length ≤ 10 * i + j ∧
          (∀ y, (valV dk' (Sum.inr y)).isSome = decide (y ∈ gs.flatten ∨ y ∈ (cmp tb R x).take j)) ∧ All2 (PtAt (He.ga K "Tables") H G5 H5 s' tb R) pts gs ∧ PtAt (He.ga K "Tables") H G5 H5 s' tb R ⟨xa, kc, adc⟩ ((cmp tb R x).take j))
        lp10.st (gi_listN (emb := V.str) (gn_call (ga_cons (gv_var rfl) (ga_cons (gv_var rfl) ga_nil)) fun H sb Q E' q => ⟨E, x, kvE, nearN tb R, G10, rfl, sb, hE10, hPr10, by rw [nearN_keys]; exact xm, nl10, nk, fun p H' L e hp hp' nl hl => q p H' e hp (by rw [hp', cmp_of nd xi nl fun y => (hl y).trans (rch_iff nd)])⟩)) trivial (by
          rintro _ _ _ _ _ e ⟨v3, v7, v8, dk', h1, h2, h3, h4, h5, h6, h7, h8⟩
          exact ⟨v3, v7, v8, dk', h1, h2, h3.grow e, h4.grow e, h5, h6, h7.imp fun _ _ _ _ h => h.grow e, h8.grow e⟩)
        (fun G5 H5 s5 => ⟨_, _, _, dk, rfl, eG10.trans s5.ex, own.step s5, odk.step s5, by omega, fun y => by rw [hdk]; simp, al.imp fun _ _ _ _ h => PtAt.step h s5, cur10.step s5⟩) (fun G5 H5 s5 j y hy σ2 G11 H11 lpj iv2 => ?_) fun G11 H11 σ2 lpj iv2 => ?_)
      · obtain ⟨v3, v7, v8, dk', rfl, eG5, own5, odk5, ldk5, hdk5, al5, cur5⟩ := iv2
        have ym := List.mem_of_getElem? hy
        obtain ⟨t, r, fs, hm, e1, oC, _, eV⟩ := hid y (idsS_mem.mpr (cin y ym))
        have ht : t ∈ tb.map (·.1) := List.mem_map.mpr ⟨_, valD_mem e1, rfl⟩
        have eR : valD (tOf R t) y = some r := valD_of (tOf_nodup nd t) (tOf_mem.mpr hm)
        have jlt : j < 10 := by
          rcases Nat.lt_or_ge j (cmp tb R x).length with h | h
          · omega
          · rw [List.getElem?_eq_none h] at hy; cases hy
        have hT5 := hT.mono eG5 fun _ _ _ h => eG5 _ _ h
        have nyj : y ∉ (cmp tb R x).take j := fun z => by
          have : ((cmp tb R x).take (j + 1)).Nodup := cnd.sublist (List.take_sublist _ _)
          rw [take_snoc hy, List.nodup_append] at this
          exact this.2.2 y z y (List.mem_singleton.mpr rfl) rfl
        refine q_of (s_dput (Φ := fun v G' => v = .bl true ∧ G' = G11) lpj.st.sub (ge_gv gv_c ⟨rfl, rfl⟩) fun v G12 H12 s12 hv => ?_)
        obtain ⟨rfl, eg⟩ := hv
        subst eg
        refine ⟨G12, dn, Sum.inr y, dk', s12.sub, gv_var rfl, gv_var rfl, s12.keep _ _ odk5.at_, by rw [sizeLine_eq]; omega, fun H13 e13 => ?_⟩
        have e12 := s12.keep.trans e13
        have sd : Stp G12 (wo [dn] H11) G12 (upd H13 dn (.dK (putK dk' (Sum.inr y) (.bl true)))) := odk5.stp lpj.st.sub e12
        have lp14 := lpj.mut (M := [dn]) (fun m hm => by rw [List.mem_singleton.mp hm]; exact odk5.h0) (fun m hm ob u => by rw [List.mem_singleton.mp hm, odk5.at_]; simp) sd
        have own14 := own5.mut (M := [dn]) (by simpa using nfd) sd
        have odk14 := (odk5.grow e12).write (u := .dK (putK dk' (Sum.inr y) (.bl true)))
        have al14 := al5.imp fun p g hp _ h => PtAt.mut (M := [dn]) h (fun t ht => by simpa using (neq p hp t ht).2) sd
        have cur14 := cur5.mut (M := [dn]) (fun t ht => by simpa using (aFd t ht).2) sd
        generalize upd H13 dn (.dK (putK dk' (Sum.inr y) (.bl true))) = H14 at *
        refine q_set lp14.st.sub (gv_eq (by rw [tabOf_in oR hm]) (gv_meth (gv_var rfl) (eG5 _ _ hi) rfl (ga_cons (gv_var rfl) ga_nil) (sv_tabOf hT5))) fun H15 e15 => ?_
        have tin : ∀ z ∈ (cmp tb R x).take j, z ∈ R.map (·.1) := fun z hz => cin z (List.mem_of_mem_take hz)
        have oRc : RwOk tb (subR R ((cmp tb R x).take j)) := subR_ok oR (cnd.sublist (List.take_sublist _ _)) tin
        have lp15 := lp14.grow e15
        refine s_asgTab lp15.st.sub hT5 ht eR (gv_var rfl) (fun _ _ => gv_var rfl) (fun _ _ => gv_var rfl) (fun _ _ => gv_var rfl) (cur14.1.grow e15) cur14.2 (hS.mono eG5) oT cT oRc e1 oC (oR.nm _ hm) (fun q hq e => by
          have := valD_of nd (subR_mem hq).2
          rw [e, eV] at this
          have := Option.some.inj this
          rw [← this]) fun G16 H16 s16 ado16 hT16 => ?_
        refine ⟨G16, lp15.mut (M := [adc t]) (fun m hm => by rw [List.mem_singleton.mp hm]; exact cur14.2.h0 t ht) (fun m hm ob u => by
          rw [List.mem_singleton.mp hm]
          obtain ⟨kvs, ek, _⟩ := (cur14.1.grow e15).inn t ht
          rw [show H15 (adc t) = _ from ek]; simp) s16, v3, _, _, putK dk' (Sum.inr y) (.bl true), rfl, eG5.trans s16.ex, (own14.grow e15).mut (M := [adc t]) (by simpa using fun z => (aFd t ht).1 z.symm) s16, (odk14.grow e15).mut (M := [adc t]) (by simpa using fun z => (aFd t ht).2 z.symm) s16, ?_, fun z => ?_,
          al14.imp fun p g hp _ h => (PtAt.grow h e15).mut (M := [adc t]) (fun u hu => by simpa using aPt p hp u hu t ht) s16, ?_, ado16⟩
        · have := putK_len dk' (Sum.inr y) (.bl true)
          omega
        · rw [valV_put, take_snoc hy]
          by_cases ez : z = y
          · subst ez; simp
          · rw [if_neg fun w => ez (Sum.inr.inj w), hdk5]
            simp [ez]
        · have : putD (subR R ((cmp tb R x).take j)) y (t, r) = subR R ((cmp tb R x).take j) ++ [(y, (t, r))] := by
            unfold putD
            rw [if_neg (by rw [subR_keys tin]; exact nyj)]
          rw [take_snoc hy, subR_snoc eV, ← this]
          exact hT16
      · obtain ⟨v3, v7, v8, dk', rfl, eG5, own5, odk5, ldk5, hdk5, al5, cur5⟩ := iv2
        rw [List.take_length] at hdk5 cur5
        have lpo : Lp G H G5 H5 G11 H11 := ⟨lpj.st, lp10.ex.trans lpj.ex, fun a ob u h => lpj.fz a ob u (lp10.fz a ob u h)⟩
        have gl : gs.length ≤ i := hgl
        refine s_append lpj.st.sub (gv_var rfl) (gv_var rfl) own5.at_ (by rw [List.length_map, sizeLine_eq]; omega) fun H17 e17 => ?_
        have sf : Stp G11 (wo [fd] H11) G11 (upd H17 fd (.lst ((pts.map fun q : Pt => V.ref q.a) ++ [V.ref xa]))) := own5.stp lpj.st.sub e17
        have own17 := (own5.grow e17).write (u := .lst ((pts.map fun q : Pt => V.ref q.a) ++ [V.ref xa]))
        refine ⟨G11, lpo.mut (M := [fd]) (fun m hm => by rw [List.mem_singleton.mp hm]; exact own5.h0) (fun m hm ob u => by rw [List.mem_singleton.mp hm, own5.at_]; simp) sf, _, v3, _, v7, v8, pts ++ [⟨xa, kc, adc⟩], dk', rfl, eG5, by rw [List.map_append]; exact own17, odk5.mut (M := [fd]) (by simpa using fun z => nfd z.symm) sf, by omega, fun z => ?_,
          (al5.imp fun p g hp _ h => PtAt.mut (M := [fd]) h (fun t ht => by simpa using (neq p hp t ht).1) sf).snoc (cur5.mut (M := [fd]) (fun t ht => by simpa using (aFd t ht).1) sf), fun q hq => ?_⟩
        · rw [hdk5]
          simp
        · rcases List.mem_append.mp hq with hq | hq
          · exact neq q hq
          · rw [List.mem_singleton.mp hq]
            exact aFd
    · have ix : x ∈ (grpsL tb R ((idsS R).take i)).flatten := by
        rw [hdk] at hn
        simpa using hn
      refine ⟨G8, lp.grow e9, _, _, _, _, _, pts, dk, rfl, eG, own.grow e9, odk.grow e9, by omega, ?_, ?_, neq⟩
      · rw [take_snoc hx, grpsL_snoc, if_pos ix]; exact hdk
      · rw [take_snoc hx, grpsL_snoc, if_pos ix]; exact al.imp fun _ _ _ _ h => h.grow e9
  · obtain ⟨v2, v3, v6, v7, v8, pts, dk, rfl, eG, own, odk, ldk, hdk, al, neq⟩ := iv
    rw [List.take_length] at al
    dsimp only
    exact s_ret lp.st.sub (gv_var rfl) fun H9 e9 => k fd G8 H9 pts (lp.st.grow e9) (own.grow e9) (al.imp fun _ _ _ _ h => h.grow e9)
end
end K25

/-! K18 -/
/-! K18: the bag: a list of three ints and a list, known only so far. -/
namespace K25
open PySem PySem.Spec PyProof.Rows L2
def bagP (b l : Addr) : Heap → Prop := fun h => ∃ (x m c : Int) (its : List Value) (n : Nat), Vals [.int x, .int m, .int c, .ref l] its ∧ h.get? b = some { cls := .type "list", data := .seq its.toArray n }
def BagO (b l : Addr) : HO := .ext (bagP b l)
theorem bag_ok {P : Program} {w : World} {H : Hp} {h : Heap} {b l : Addr} {x m c : Int} {its : List Value} {n : Nat} (r : Vals [.int x, .int m, .int c, .ref l] its) (e : h.get? b = some { cls := .type "list", data := .seq its.toArray n }) : ObjOk P w H h b (BagO b l) :=
  ⟨⟨x, m, c, its, n, r, e⟩, ⟨_, e⟩, fun h1 h2 ⟨x, m, c, its, n, r, e⟩ k => ⟨x, m, c, its, n, r, k _ e⟩⟩
theorem upd_self {H : Hp} {b : Addr} {o : HO} (h : H b = some o) : upd H b o = H := funext fun a => by
  by_cases e : a = b
  · rw [e, upd_same, h]
  · rw [upd_ne e]
theorem upd_updS {H : Hp} {b : Addr} {o u : HO} : upd (upd H b o) b u = upd H b u := funext fun a => by
  by_cases e : a = b
  · rw [e, upd_same, upd_same]
  · rw [upd_ne e, upd_ne e, upd_ne e]
section
variable {X : Cx} {pins : List (Addr × Obj)} {σ : L2.St} {H : Hp} {s : Shared} {b l : Addr}
theorem Inv.asLst (I : L2.Inv X pins σ H s) (h : H b = some (BagO b l)) : ∃ x m c : Int, L2.Inv X pins σ (upd H b (.lst [.int x, .int m, .int c, .ref l])) s := by
  obtain ⟨⟨x, m, c, its, n, r, e⟩, _⟩ := I.hok b _ h
  exact ⟨x, m, c, I.write (h' := s.heap) (t' := s.toks) (x := b) (e := b) (by rw [h]; trivial) (.inl rfl) (fun _ _ _ q => q) ⟨_, e⟩ ⟨few rfl, its, n, r, e⟩⟩
theorem Inv.asBag {x m c : Int} (I : L2.Inv X pins σ H s) (h : H b = some (.lst [.int x, .int m, .int c, .ref l])) : L2.Inv X pins σ (upd H b (BagO b l)) s := by
  obtain ⟨_, its, n, r, e⟩ := I.hok b _ h
  exact I.write (h' := s.heap) (t' := s.toks) (x := b) (e := b) (by rw [h]; trivial) (.inl rfl) (fun _ _ _ q => q) ⟨_, e⟩ (bag_ok r e)
theorem Inv.bagged {x m c : Int} (I : L2.Inv X pins σ (upd H b (.lst [.int x, .int m, .int c, .ref l])) s) (h : H b = some (BagO b l)) : L2.Inv X pins σ H s := by
  have := Inv.asBag I upd_same
  rwa [upd_updS, upd_self h] at this
def rIxBag : R2 := fun x y H Q => ∃ (b l : Addr) (k : Int), x = .ref b ∧ y = .int k ∧ H b = some (BagO b l) ∧ (((k = 0 ∨ k = 1 ∨ k = 2) ∧ ∀ n, Q (.int n) H) ∨ (k = 3 ∧ Q (.ref l) H))
theorem bag_at {x m c k : Int} {l : Addr} {H : Hp} {Q : VK} (h : ((k = 0 ∨ k = 1 ∨ k = 2) ∧ ∀ n, Q (.int n) H) ∨ (k = 3 ∧ Q (.ref l) H)) : ∃ v, atI [.int x, .int m, .int c, .ref l] k = some v ∧ Q v H := by
  rcases h with ⟨rfl | rfl | rfl, q⟩ | ⟨rfl, q⟩
  · exact ⟨_, atN (j := 0) rfl, q _⟩
  · exact ⟨_, atN (j := 1) rfl, q _⟩
  · exact ⟨_, atN (j := 2) rfl, q _⟩
  · exact ⟨_, atN (j := 3) rfl, q⟩
theorem ix_bag {X : Cx} : IxR X rIxBag := by
  intro value slice pins s σ H x y v u Q I rx ry h hs
  obtain ⟨b, l, k, rfl, rfl, hb, h⟩ := h
  obtain ⟨x, m, c, I'⟩ := Inv.asLst I hb
  obtain ⟨z, ez, q⟩ := bag_at (x := x) (m := m) (c := c) h
  refine wpAny_mono (ix_list value slice pins s σ _ _ _ v u (fun z' H' => z' = z ∧ H' = upd H b (.lst [.int x, .int m, .int c, .ref l])) I' rx ry ⟨b, _, k, z, rfl, rfl, SqL.of upd_same, ez, rfl, rfl⟩ hs) (fun r s' z' => ?_) fun _ _ z => z
  obtain ⟨y', H', I2, rv, rfl, rfl⟩ := z'
  exact ⟨_, H, Inv.bagged I2 hb, rv, q⟩
theorem get_bag {X : Cx} : PGet X rIxBag := by
  intro pins s σ H x y v u Q I rx ry h
  obtain ⟨b, l, k, rfl, rfl, hb, h⟩ := h
  cases rx
  obtain ⟨t, rfl⟩ := ry
  obtain ⟨⟨x, m, c, its, n, r, e⟩, _⟩ := I.hok b _ hb
  obtain ⟨z, ez, q⟩ := bag_at (x := x) (m := m) (c := c) h
  have hk : 0 ≤ k ∧ k ≤ 3 := by rcases h with ⟨rfl | rfl | rfl, _⟩ | ⟨rfl, _⟩ <;> omega
  obtain ⟨j, h1, h2, h3, h4, h5⟩ := atI_get ez
  obtain ⟨w, ew, rw'⟩ := r.get h2
  have hj : k.toNat = j := by
    rw [seqIndex_of hk.1 h5] at h1
    exact Option.some.inj h1
  exact wpAny_getItem_list (items := its.toArray) ⟨_, e, rfl, n, rfl⟩ hk.1 (by omega) (by rw [hj]; simpa using ew) ⟨z, H, I, rw', q⟩
def rSetBag : V → V → V → Hp → (Hp → Prop) → Prop := fun o i v H Q => ∃ (b l : Addr) (k n : Int), o = .ref b ∧ i = .int k ∧ v = .int n ∧ H b = some (BagO b l) ∧ (k = 0 ∨ k = 1 ∨ k = 2) ∧ Q H
theorem set_bag {X : Cx} : PSet X rSetBag := by
  intro pins s σ H o i v ov iv u Q I ro ri rv h
  obtain ⟨b, l, k, n, rfl, rfl, rfl, hb, hk, q⟩ := h
  obtain ⟨x, m, c, I'⟩ := Inv.asLst I hb
  have done : ∀ {x' m' c' : Int} {s' : Shared}, L2.Inv X pins σ (upd (upd H b (.lst [.int x, .int m, .int c, .ref l])) b (.lst [.int x', .int m', .int c', .ref l])) s' → ∃ H', L2.Inv X pins σ H' s' ∧ Q H' := fun I2 => by
    rw [upd_updS] at I2
    exact ⟨H, Inv.bagged I2 hb, q⟩
  rcases hk with rfl | rfl | rfl
  · refine wpAny_mono (set_list pins s σ _ _ _ _ ov iv u (fun H' => H' = _) I' ro ri rv ⟨b, _, 0, 0, rfl, rfl, upd_same, rfl, rfl⟩) (fun r s' z' => ?_) fun _ _ z => z
    obtain ⟨H', I2, rfl⟩ := z'
    exact done I2
  · refine wpAny_mono (set_list pins s σ _ _ _ _ ov iv u (fun H' => H' = _) I' ro ri rv ⟨b, _, 1, 1, rfl, rfl, upd_same, rfl, rfl⟩) (fun r s' z' => ?_) fun _ _ z => z
    obtain ⟨H', I2, rfl⟩ := z'
    exact done I2
  · refine wpAny_mono (set_list pins s σ _ _ _ _ ov iv u (fun H' => H' = _) I' ro ri rv ⟨b, _, 2, 2, rfl, rfl, upd_same, rfl, rfl⟩) (fun r s' z' => ?_) fun _ _ z => z
    obtain ⟨H', I2, rfl⟩ := z'
    exact done I2
def tLstBag (t : TA) : TE := fun σ H Q => t σ H fun xs H1 => ∃ (x m c : Int) (l : Addr), xs = [.int x, .int m, .int c, .ref l] ∧ ∀ p, H1 p = none → Q (.ref p) (upd H1 p (BagO p l))
theorem pe_lstBag {X : Cx} {es : List Expr} {t : TA} {pos : Pos} (h : PA X es t) : PE X (.List es pos) (tLstBag t) := by
  refine ⟨fun pins s σ H Q I hq => ?_⟩
  refine wpAny_List_spliced (thn (h.run pos pins s σ H _ I hq) fun us s1 ⟨xs, H1, I1, r, z⟩ => ?_)
  obtain ⟨x, m, c, l, rfl, q⟩ := z
  refine ⟨by rw [← r.length]; exact few rfl, ?_⟩
  have hf : H1 s1.heap.objs.size = none := I1.hok.fresh (Nat.le_refl _)
  refine ⟨.ref s1.heap.objs.size, upd H1 s1.heap.objs.size (BagO s1.heap.objs.size l), I1.laid (t' := s1.toks) (fun b u e => Heap.get?_push_of_some _ e) (Nat.le_refl _) ?_, rfl, q _ hf⟩
  exact bag_ok r (Heap.get?_push_size _ rfl)
end
end K25

/-! F21 -/
namespace K25
open PySem PySem.Spec PyProof.Rows L2
theorem _root_.L2.SqL.keepS {K : PySem.W.Frag} {H H' : Hp} {a : Addr} {xs : List V} (h : SqL K H a xs) (e : Same H H') : SqL K H' a xs := h.imp (fun h => h.imp (e _ _) fun ⟨ob, z⟩ => ⟨ob, e _ _ z⟩) id
/-! ### ints of which only some is known -/
def Gz (P : Int → Prop) (te : TE) (σ : L2.St) (G : Hp) : Prop := ∀ H, Sub G H → ∀ Q : VK, (∀ n H', Same H H' → P n → Q (.int n) H') → te σ H Q
abbrev rInt1 : List V → Hp → VK → Prop := fun xs H Q => (∃ i, xs = [.int i] ∧ Q (.int i) H) ∨ ∃ k, xs = [.bl k] ∧ Q (.int (if k then 1 else 0)) H
section
variable {K : PySem.W.Frag} {σ : L2.St} {G H : Hp} {A B C : Int → Prop} {ta tb te tk : TE} {b l : Addr} {D : Int → Int → Prop} {f : Int → Int → Int} {E : Ends} {rest : TS}
theorem Sub.bag (s : Sub G H) (hb : G b = some (BagO b l)) : H b = some (BagO b l) := by
  rcases s b _ hb with h | ⟨_, _, e, _⟩
  · exact h
  · cases e
theorem gz_v {n : Int} (h : Gv te σ G (.int n)) (p : A n) : Gz A te σ G := fun H s Q q => h H s Q fun H' e => q n H' e p
theorem gz_bag {k : Int} (h : Gv ta σ G (.ref b)) (hb : G b = some (BagO b l)) (hk : k = 0 ∨ k = 1 ∨ k = 2) : Gz (fun _ => True) (tOp rIxBag ta (tC (.int k))) σ G := fun H s Q q =>
  h H s _ fun H1 e1 => ⟨b, l, k, rfl, rfl, Sub.bag (s.same e1) hb, .inl ⟨hk, fun n => q n H1 e1 trivial⟩⟩
theorem gv_bag {k : Int} (h : Gv ta σ G (.ref b)) (hb : G b = some (BagO b l)) (hk : k = 3) : Gv (tOp rIxBag ta (tC (.int k))) σ G (.ref l) := fun H s Q q =>
  h H s _ fun H1 e1 => ⟨b, l, k, rfl, rfl, Sub.bag (s.same e1) hb, .inr ⟨hk, q H1 e1⟩⟩
theorem gz_op0 (ha : Gz A ta σ G) (hb : Gz B tb σ G) (c : ∀ x y, A x → B y → C (f x y)) : Gz C (tOp (rI0 fun i j => .int (f i j)) ta tb) σ G := fun H s Q q =>
  ha H s _ fun x H1 e1 px => hb H1 (s.same e1) _ fun y H2 e2 py => ⟨x, y, rfl, rfl, q _ H2 (e1.trans e2) (c x y px py)⟩
theorem gz_op (ha : Gz A ta σ G) (hb : Gz B tb σ G) (d : ∀ x y, A x → B y → D x y) (c : ∀ x y, A x → B y → C (f x y)) : Gz C (tOp (rI D fun i j => .int (f i j)) ta tb) σ G := fun H s Q q =>
  ha H s _ fun x H1 e1 px => hb H1 (s.same e1) _ fun y H2 e2 py => ⟨x, y, rfl, rfl, d x y px py, q _ H2 (e1.trans e2) (c x y px py)⟩
theorem gz_int (h : Gz A te σ G) : Gz A (tCB rInt1 (tCons te tNil)) σ G := fun H s Q q =>
  h H s _ fun n H1 e1 p => .inl ⟨n, rfl, q n H1 e1 p⟩
theorem gz_intB {k : Bool} (h : Gv te σ G (.bl k)) : Gz (fun n => n = 0 ∨ n = 1) (tCB rInt1 (tCons te tNil)) σ G := fun H s Q q =>
  h H s _ fun H1 e1 => .inr ⟨k, rfl, q _ H1 e1 (by cases k <;> simp)⟩
theorem gt_z {f : Int → Int → Bool} {n : Int} (ha : Gz A te σ G) (hb : Gv tb σ G (.int n)) (s : Sub G H) {t u : TS} (k : ∀ (c : Bool) x H', A x → c = f x n → Same H H' → (if c then t else u) E σ H') : tIfS (tTest (tOp (rI0 fun i j => .bl (f i j)) te tb)) t u E σ H :=
  ha H s _ fun x H1 e1 px => hb H1 (s.same e1) _ fun H2 e2 => ⟨x, n, rfl, rfl, f x n, rfl, by
    have := k (f x n) x H2 px rfl (e1.trans e2)
    cases h : f x n <;> rw [h] at this <;> exact this⟩
theorem q_setZ {i : Nat} (s : Sub G H) (h : Gz A te σ G) (k : ∀ n H', Same H H' → A n → rest E (σ.set i (some (.int n))) H') : tSeq (tAsg te (gName i)) rest E σ H := h H s _ fun n H1 e1 p => k n H1 e1 p
theorem s_setBag {k : Int} (s : Sub G H) (h : Gz A te σ G) (ho : Gv ta σ G (.ref b)) (hb : G b = some (BagO b l)) (hk : k = 0 ∨ k = 1 ∨ k = 2) (q : ∀ H', Same H H' → E.nx σ H') : tAsg te (gSub ta (tC (.int k)) rSetBag) E σ H :=
  h H s _ fun n H1 e1 p => ho H1 (s.same e1) _ fun H2 e2 => ⟨b, l, k, n, rfl, rfl, rfl, Sub.bag (s.same (e1.trans e2)) hb, hk, q H2 (e1.trans e2)⟩
theorem s_augBag {k n : Int} (s : Sub G H) (he : Gv te σ G (.int n)) (ho : Gv ta σ G (.ref b)) (hb : G b = some (BagO b l)) (hk : k = 0 ∨ k = 1 ∨ k = 2) (q : ∀ H', Same H H' → E.nx σ H') : tAugS ta (tC (.int k)) te rIxBag (ipI fun i j => i + j) rSetBag E σ H :=
  have at_ : ∀ H', Same H H' → H' b = some (BagO b l) := fun H' e => Sub.bag (s.same e) hb
  ho H s _ fun H1 e1 => ⟨b, l, k, rfl, rfl, at_ _ e1, .inl ⟨hk, fun m => he H1 (s.same e1) _ fun H2 e2 => ⟨m, n, rfl, rfl, b, l, k, m + n, rfl, rfl, rfl, at_ _ (e1.trans e2), hk, q H2 (e1.trans e2)⟩⟩⟩
end
section
variable {K : PySem.W.Frag} {σ : L2.St} {G H : Hp} {A : Int → Prop} {te tb : TE} {a : Addr} {E : Ends} {lo hi : TO} {l u : Option Int} {xs : List V}
theorem gt_zEq {n : Int} (ha : Gz A te σ G) (hb : Gv tb σ G (.int n)) (s : Sub G H) {t u : TS} (k1 : ∀ H', Same H H' → t E σ H') (k2 : ∀ H', Same H H' → u E σ H') : tIfS (tTest (tOp rEq te tb)) t u E σ H :=
  ha H s _ fun x H1 e1 px => hb H1 (s.same e1) _ fun H2 e2 => ⟨rfl, _, rfl, by
    by_cases h : (V.int x = V.int n)
    · show if decide (V.int x = V.int n) = true then t E σ H2 else u E σ H2
      rw [if_pos (decide_eq_true h)]; exact k1 H2 (e1.trans e2)
    · show if decide (V.int x = V.int n) = true then t E σ H2 else u E σ H2
      rw [if_neg fun z => h (of_decide_eq_true z)]; exact k2 H2 (e1.trans e2)⟩
theorem s_retBag {t : TE} {x m c : Int} (h : ∀ Q : VK, (∀ l H1, (∀ p, H1 p = none → E.rt (.ref p) (upd H1 p (BagO p l))) → Q (.ref l) H1) → t σ H Q) : tRet (tLstBag (tCons (tC (.int x)) (tCons (tC (.int m)) (tCons (tC (.int c)) (tCons t tNil))))) E σ H :=
  h _ fun l H1 q => ⟨x, m, c, l, rfl, q⟩
theorem q_twoBag {K : PySem.W.Frag} {B : Int → Prop} {ta tb to : TE} {b l : Addr} {i : Nat} {k : Int} {rest : TS} (s : Sub G H) (h1 : Gz A ta σ G) (h2 : Gz B tb σ G) (ho : ∀ m, Gv to (σ.set i (some (.int m))) G (.ref b)) (hb : G b = some (BagO b l)) (hk : k = 0 ∨ k = 1 ∨ k = 2)
    (q : ∀ m H', Same H H' → A m → rest E (σ.set i (some (.int m))) H') : tSeq (tAsg (tTup (tCons ta (tCons tb tNil))) (gTup K 2 (gCons (gName i) (gCons (gSub to (tC (.int k)) rSetBag) gNil)))) rest E σ H :=
  h1 H s _ fun m H1 e1 pm => h2 H1 (s.same e1) _ fun m2 H2 e2 p2 => ⟨few rfl, fun p hp => ⟨p, [.int m, .int m2], rfl, SqT.of upd_same, rfl, _, _, rfl, _, _, rfl, by
    have e3 := (e1.trans e2).trans (Same.put (o := .tup [.int m, .int m2]) hp)
    exact ho m _ (s.same e3) _ fun H4 e4 => ⟨b, l, k, m2, rfl, rfl, rfl, Sub.bag (s.same (e3.trans e4)) hb, hk, rfl, q m H4 (e3.trans e4) pm⟩⟩⟩
theorem s_retZ (s : Sub G H) (h : Gz A te σ G) (k : ∀ n H', Same H H' → A n → E.rt (.int n) H') : tRet te E σ H := h H s _ k
theorem q_tail {t rest : TS} (Y : L2.St → Hp → Prop) (h1 : (∀ σ' H', Y σ' H' → rest E σ' H') → t { E with nx := rest E } σ H) (h2 : ∀ σ' H', Y σ' H' → rest E σ' H') : tSeq t rest E σ H := h1 h2
theorem gi_slR {δ : Type} {j : Nat} {ds : List δ} {emb : δ → V} (h : Gv te σ G (.ref a)) (hlo : ∀ H Q, Q l H → lo σ H Q) (hhi : ∀ H Q, Q u H → hi σ H Q) (e : cutV xs l u = ds.map emb) : GI (fun H => SqL K H a xs) (iList K (tSl (rSlL K) te lo hi)) (gName j) σ G ds (upN j emb) := fun H s c R r =>
  h H s _ fun H1 e1 => hlo H1 _ (hhi H1 _ ⟨a, xs, rfl, c.keepS e1, fun p hp => ⟨p, rfl, ⟨_, SqL.of upd_same⟩, by
    rw [e]
    exact r _ (upd G p _) _ (((Stp.refl s).grow (e1.trans (Same.put hp))).tell (s.non (e1.free hp)) (e1.free hp) upd_same) (wk_list upd_same)⟩⟩)
theorem cutV_map (cells : List Int) (l u : Option Int) : ∃ ds : List Int, cutV (cells.map V.int) l u = ds.map V.int ∧ ds.length ≤ cells.length := by
  unfold cutV
  refine ⟨(cells.drop (HT.sIx (cells.map V.int).length 0 l)).take (HT.sIx (cells.map V.int).length (cells.map V.int).length u - HT.sIx (cells.map V.int).length 0 l), by rw [List.map_take, List.map_drop], ?_⟩
  rw [List.length_take, List.length_drop]
  omega
end
section
variable {P : Program} {w : World} {K : PySem.W.Frag} {mg : Str → Option Value} {base : Heap}
def spBag (K : PySem.W.Frag) : Sp := fun vs H Q _ => ∃ (a : Addr) (cells : List Int), vs = [.ref a] ∧ SqL K H a (cells.map V.int) ∧ cells.length ≤ 63 ∧ ∀ (l : Addr) (H' : Hp) (ds : List Int), Same H H' → H l = none → H' l = some (.lst (ds.map V.int)) → ds.length ≤ 63 → ∀ p, H' p = none → Q (.ref p) (upd H' p (BagO p l))
abbrev N_w_bag : List Str := ["_law_script", "_law_cell"]
theorem sc_w_bag : FnScope N_w_bag ["_law_script"] (defScope s_w_bag) := ⟨rfl, rfl, rfl, by decide +kernel, rfl, by decide +kernel, by decide +kernel⟩
-- slots: 0 _law_script, 1 _law_cell
theorem c_w_bag (T : Tx K mg) : Cal P w K mg base 1 "_law_bag" (spBag K) := by
  refine ⟨_, _, ["_law_script"], fn_body T.f_w_bag sc_w_bag (fun vs H Q E h => by obtain ⟨_, _, rfl, _⟩ := h; rfl) (fun cdv A outer s H vs Q E hr h => ?_), T.g_w_bag, T.f_w_bag.kp, T.f_w_bag.bindsN fun _ _ _ _ _ _ us hl => match us, hl with | [_], _ => rfl⟩
  obtain ⟨a, cells, rfl, ha, hc, k⟩ := h
  have hu := hu_of hr
  refine ⟨_,
    (pss_one (ps_ret (pe_lstBag (pa_cons pe_int (pa_cons pe_int (pa_cons pe_int (pa_cons (pe_lc rfl sc_w_bag.nd (pi_listK rfl (pe_slice (sl_listK rfl) (pv 0) po_none (po_some pe_int))) (blkOk_by (own := [("_law_cell", 1)]) (N := N_w_bag) (sc := defScope s_w_bag) (by decide +kernel)) (fun _ _ _ _ _ => (pg_name (i := 1) sc_w_bag.nd rfl (Or.inl rfl))) (fun _ _ _ _ _ => pts_nil) (fun _ _ _ _ _ => (pe_callB call_abs (by rfl) T.b_abs (by decide +kernel) (pa_cons (pv 1) pa_nil)))) pa_nil))))))), ?_⟩
  obtain ⟨ds, ed, ld⟩ := cutV_map cells none (some 63)
  have sN : Sub (fun _ => none) H := fun a o h => by cases h
  refine s_retBag fun Q' kq => ?_
  refine gm_lcV (G := fun _ => none) (ds := ds) (pf := fun _ => true) (up := upN 1 V.int) (fun d => V.int (if d < 0 then -d else d)) (gi_slR (xs := cells.map V.int) (gv_var rfl) to_none to_int ed) (by omega) (fun _ _ => rfl) (fun _ _ => gt_yes) (fun d hd _ => gv_cb (ga_cons (gv_var rfl) ga_nil) fun H s Q q => ⟨d, rfl, q H (Same.refl H)⟩) (fun H H' e c => c.keepS e) H sN ha Q' fun p o G' H' st hp gp h' ho => ?_
  subst ho
  refine kq p H' fun q hq => k p H' (ds.map fun d => if d < 0 then -d else d) st.keep hp ?_ (by rw [List.length_map]; omega) q hq
  rw [h', List.filter_eq_self.mpr (fun _ _ => rfl), List.map_map]
  rfl
def spTake : Sp := fun vs H Q _ => ∃ (b l : Addr) (ds : List Int) (n : Int) (G : Hp), vs = [.ref b, .int n] ∧ Sub G H ∧ G b = some (BagO b l) ∧ G l = some (.lst (ds.map V.int)) ∧ ds.length ≤ 63 ∧ 0 < n ∧ n < 1073741824 ∧ ∀ r H', Same H H' → 0 ≤ r → r < n → Q (.int r) H'
abbrev N_w_take : List Str := ["_law_bag_here", "_law_many", "_law_cell", "_law_mixed", "_law_drawn", "_law_early", "_law_second"]
theorem sc_w_take : FnScope N_w_take ["_law_bag_here", "_law_many"] (defScope s_w_take) := ⟨rfl, rfl, rfl, by decide +kernel, rfl, by decide +kernel, by decide +kernel⟩
-- slots: 0 _law_bag_here, 1 _law_many, 2 _law_cell, 3 _law_mixed, 4 _law_drawn, 5 _law_early, 6 _law_second
theorem c_w_take (T : Tx K mg) : Cal P w K mg base 1 "_law_take" spTake := by
  refine ⟨_, _, ["_law_bag_here", "_law_many"], fn_body T.f_w_take sc_w_take (fun vs H Q E h => by obtain ⟨_, _, _, _, _, rfl, _⟩ := h; rfl) (fun cdv A outer s H vs Q E hr h => ?_), T.g_w_take, T.f_w_take.kp, T.f_w_take.bindsN fun _ _ _ _ _ _ us hl => match us, hl with | [_, _], _ => rfl⟩
  obtain ⟨b, l, ds, n, G, rfl, sG, hb, hl, l63, n0, nM, k⟩ := h
  have hu := hu_of hr
  refine ⟨_,
    (pss_cons (ps_if (pt_cmpR op_eq (pe_ix ix_bag (pv 0) pe_int (fun _ _ => rfl)) pe_int (nomark _))
      (pss_cons (ps_set (i := 2) sc_w_take.nd rfl (Or.inl rfl) (pe_ix (ix_listK rfl) (pe_op op_cat (pe_slice (sl_listK rfl) (pe_ix ix_bag (pv 0) pe_int (fun _ _ => rfl)) (po_some (pe_ix ix_bag (pv 0) pe_int (fun _ _ => rfl))) po_none) (pe_lst (pa_cons pe_int pa_nil))) pe_int (fun _ _ => rfl)))
      (pss_cons (ps_augS (pv 0) pe_int get_bag pe_int ip_add set_bag)
      (pss_cons (ps_asg (pe_op op_mul (pv 2) (pe_callTy call_int1 (by rfl) T.b_int (by decide +kernel) (pa_cons (pe_cmpR op_ge (pv 2) (pe_op op_pow pe_int pe_int) (nomark _)) pa_nil))) (pg_sub (pv 0) pe_int set_bag))
      (pss_cons (ps_set (i := 3) sc_w_take.nd rfl (Or.inl rfl) (pe_op op_add (pe_op op_add (pe_op op_mul (pe_ix ix_bag (pv 0) pe_int (fun _ _ => rfl)) pe_int) (pe_op op_mod (pe_callTy call_int1 (by rfl) T.b_int (by decide +kernel) (pa_cons (pv 2) pa_nil)) pe_int)) (pe_op op_mul pe_int (pe_ix ix_bag (pv 0) pe_int (fun _ _ => rfl)))))
      (pss_one (ps_asg (pe_op op_mod (pe_callTy call_int1 (by rfl) T.b_int (by decide +kernel) (pa_cons (pv 3) pa_nil)) pe_int) (pg_sub (pv 0) pe_int set_bag)))))))
      pss_nil)
    (pss_cons (ps_if (pt_cmpR op_gt (pe_ix ix_bag (pv 0) pe_int (fun _ _ => rfl)) pe_int (nomark _))
      (pss_cons (ps_asg (pe_tup (pa_cons (pe_op op_mod (pe_callTy call_int1 (by rfl) T.b_int (by decide +kernel) (pa_cons (pe_ix ix_bag (pv 0) pe_int (fun _ _ => rfl)) pa_nil)) (pv 1)) (pa_cons (pe_op op_fdiv (pe_callTy call_int1 (by rfl) T.b_int (by decide +kernel) (pa_cons (pe_ix ix_bag (pv 0) pe_int (fun _ _ => rfl)) pa_nil)) (pv 1)) pa_nil))) (pg_tupK (n := 2) rfl rfl (pgs_cons (pg_name (i := 4) sc_w_take.nd rfl (Or.inl rfl)) (pgs_cons (pg_sub (pv 0) pe_int set_bag) pgs_nil))))
      (pss_one (ps_ret (pv 4))))
      pss_nil)
    (pss_cons (ps_set (i := 5) sc_w_take.nd rfl (Or.inl rfl) (pe_op op_mod (pe_callTy call_int1 (by rfl) T.b_int (by decide +kernel) (pa_cons (pe_op op_mul (pe_op op_add (pe_ix ix_bag (pv 0) pe_int (fun _ _ => rfl)) pe_int) pe_int) pa_nil)) pe_int))
    (pss_cons (ps_set (i := 6) sc_w_take.nd rfl (Or.inl rfl) (pe_op op_mod (pe_callTy call_int1 (by rfl) T.b_int (by decide +kernel) (pa_cons (pe_op op_mul (pe_op op_mod (pe_callTy call_int1 (by rfl) T.b_int (by decide +kernel) (pa_cons (pe_op op_mul (pv 5) (pv 5)) pa_nil)) pe_int) pe_int) pa_nil)) pe_int))
    (pss_one (ps_ret (pe_op op_mod (pe_callTy call_int1 (by rfl) T.b_int (by decide +kernel) (pa_cons (pe_op op_fdiv (pv 6) pe_int) pa_nil)) (pv 1)))))))), ?_⟩
  have bag : ∀ {σ : L2.St} {i : Int}, σ[0]? = some (some (.ref b)) → (i = 0 ∨ i = 1 ∨ i = 2) → Gz (fun _ => True) (tOp rIxBag (tVar 0) (tC (.int i))) σ G := fun h hi => gz_bag (gv_var h) hb hi
  have c : ∀ {σ : L2.St} {i : Int}, Gz (fun m => m = i) (tC (.int i)) σ G := fun {σ i} => gz_v gv_c rfl
  have m64 : ∀ {i j : Int}, (-(2 ^ 64) < j ∧ j < 2 ^ 64) → CMul i j := fun h => .inr h
  have cell : ∀ {σ : L2.St}, σ[0]? = some (some (.ref b)) → Gz (fun _ => True) (tOp (rIxL K) (tOp rCat (tSl (rSlL K) (tOp rIxBag (tVar 0) (tC (.int 3))) (tPart (tOp rIxBag (tVar 0) (tC (.int 2)))) tNoPart) (tLst (tCons (tC (.int 0)) tNil))) (tC (.int 0))) σ G := fun {σ} h H s Q q => by
    refine gv_bag (gv_var h) hb rfl H s _ fun H1 e1 => ?_
    refine bag (i := 2) h (by simp) H1 (s.same e1) _ fun m H2 e2 _ => ⟨m, rfl, ⟨l, _, rfl, SqL.of (((s.same e1).same e2).lst hl), fun p hp => ?_⟩⟩
    obtain ⟨ds', ed, ld⟩ := cutV_map ds (some m) none
    rw [ed]
    have e2' := e1.trans e2
    have hl3 := (s.same e2').same (Same.put (o := .lst (ds'.map V.int)) hp)
    refine ⟨few rfl, fun p2 hp2 => ⟨p, p2, ds'.map V.int, [V.int 0], rfl, rfl, ?_, upd_same, ?_, fun p3 hp3 => ?_⟩⟩
    · exact Same.put hp2 _ _ upd_same
    · rw [List.length_map, sizeLine_eq]; simp; omega
    · obtain ⟨x, hx⟩ : ∃ x : Int, atI (ds'.map V.int ++ [V.int 0]) 0 = some (.int x) := by
        cases ds' with
        | nil => exact ⟨0, at0 _ _⟩
        | cons d ds' => exact ⟨d, at0 _ _⟩
      exact ⟨p3, _, 0, .int x, rfl, rfl, SqL.of upd_same, hx, q x _ (((e2'.trans (Same.put hp)).trans (Same.put hp2)).trans (Same.put hp3)) trivial⟩
  refine q_tail (fun σ' H' => ∃ x2 x3, σ' = [some (.ref b), some (.int n), x2, x3, none, none, none] ∧ Same H H') (fun tail => ?_) ?_
  · refine gt_zEq (bag rfl (by simp)) gv_c sG (fun H1 e1 => ?_) fun H1 e1 => ?_
    · have s1 := sG.same e1
      refine q_setZ s1 (cell rfl) fun z H2 e2 _ => ?_
      have s2 := s1.same e2
      refine q_of (s_augBag s2 gv_c (gv_var rfl) hb (by simp) fun H3 e3 => ?_)
      have s3 := s2.same e3
      refine q_of (s_setBag (A := fun _ => True) s3 (gz_op (A := fun _ => True) (B := fun n => n = 0 ∨ n = 1) (gz_v (gv_var rfl) trivial) (gz_intB (gv_op (gv_var rfl) (gv_op gv_c gv_c (rv_I (D := CPow) ⟨by decide, by decide, by decide⟩)) rv_I0)) (fun x y _ hy => m64 (by rcases hy with rfl | rfl <;> decide)) fun _ _ _ _ => trivial) (gv_var rfl) hb (by simp) fun H4 e4 => ?_)
      have s4 := s3.same e4
      have l31 : (0 : Int) < 2147483647 := by decide
      refine q_setZ (A := fun _ => True) s4 (gz_op0 (C := fun _ => True) (gz_op0 (C := fun _ => True) (gz_op (C := fun _ => True) (bag rfl (by simp)) c (fun x y _ hy => m64 (by rw [hy]; decide)) fun _ _ _ _ => trivial) (gz_op (C := fun _ => True) (gz_int (gz_v (A := fun _ => True) (gv_var rfl) trivial)) c (fun x y _ hy => by rw [hy]; exact l31) fun _ _ _ _ => trivial) fun _ _ _ _ => trivial) (gz_op (C := fun _ => True) c (bag rfl (by simp)) (fun x y hx _ => .inl (by rw [hx]; decide)) fun _ _ _ _ => trivial) fun _ _ _ _ => trivial) fun z2 H5 e5 _ => ?_
      have s5 := s4.same e5
      refine s_setBag (A := fun _ => True) s5 (gz_op (gz_int (gz_v (A := fun _ => True) (gv_var rfl) trivial)) c (fun x y _ hy => by rw [hy]; exact l31) fun _ _ _ _ => trivial) (gv_var rfl) hb (by simp) fun H6 e6 => ?_
      exact tail _ _ ⟨_, _, rfl, e1.trans (e2.trans (e3.trans (e4.trans (e5.trans e6))))⟩
    · exact tail _ _ ⟨_, _, rfl, e1⟩
  rintro σ' H' ⟨x2, x3, rfl, e0⟩
  replace sG := sG.same e0
  have M : ∀ {σ : L2.St}, σ[1]? = some (some (.int n)) → Gz (fun m => m = n) (tVar 1) σ G := fun h => gz_v (gv_var h) rfl
  have un : ∀ {C : Int → Prop} {σ : L2.St} {te : TE}, Gz C te σ G → Gz (fun _ => True) te σ G := fun h H s Q q => h H s Q fun n H' e _ => q n H' e trivial
  refine q_of (gt_z (f := fun i j => decide (j < i)) (bag rfl (by simp)) gv_c sG fun t x H1 _ _ e1 => ?_)
  cases t with
  | true =>
    rw [if_pos rfl]
    refine q_twoBag (A := fun r => 0 ≤ r ∧ r < n) (B := fun _ => True) (sG.same e1) (gz_op (gz_int (bag rfl (by simp))) (M rfl) (fun x y _ hy => by rw [hy]; exact n0) fun x y _ hy => by rw [hy]; exact ⟨Int.emod_nonneg _ (by omega), Int.emod_lt_of_pos _ n0⟩) (gz_op (gz_int (bag rfl (by simp))) (M rfl) (fun x y _ hy => by rw [hy]; exact ⟨n0, nM⟩) fun _ _ _ _ => trivial) (fun m => gv_var rfl) hb (by simp) fun r H2 e2 hr' => ?_
    exact s_ret ((sG.same e1).same e2) (gv_var rfl) fun H3 e3 => k r H3 (e0.trans (e1.trans (e2.trans e3))) hr'.1 hr'.2
  | false =>
    rw [if_neg (by simp)]
    have s1 := sG.same e1
    have l9 : (0 : Int) < 1000000007 := by decide
    have l8 : (0 : Int) < 998244353 := by decide
    show _
    refine q_setZ (A := fun r => 0 ≤ r ∧ r < 1000000007) s1 (gz_op (gz_int (gz_op (C := fun _ => True) (gz_op0 (C := fun _ => True) (bag rfl (by simp)) c fun _ _ _ _ => trivial) c (fun x y _ hy => m64 (by rw [hy]; decide)) fun _ _ _ _ => trivial)) c (fun x y _ hy => by rw [hy]; exact l9) fun x y _ hy => by rw [hy]; exact ⟨Int.emod_nonneg _ (by omega), Int.emod_lt_of_pos _ l9⟩) fun z5 H2 e2 h5 => ?_
    have s2 := s1.same e2
    refine q_setZ (A := fun _ => True) s2 (gz_op (gz_int (gz_op (C := fun _ => True) (gz_op (C := fun _ => True) (gz_int (gz_op (C := fun _ => True) (gz_v (A := fun r => 0 ≤ r ∧ r < 1000000007) (gv_var rfl) h5) (gz_v (A := fun r => 0 ≤ r ∧ r < 1000000007) (gv_var rfl) h5) (fun x y hx _ => .inl (by omega)) fun _ _ _ _ => trivial)) c (fun x y _ hy => by rw [hy]; exact l8) fun _ _ _ _ => trivial) c (fun x y _ hy => m64 (by rw [hy]; decide)) fun _ _ _ _ => trivial)) c (fun x y _ hy => by rw [hy]; exact l8) fun _ _ _ _ => trivial) fun z6 H3 e3 _ => ?_
    have s3 := s2.same e3
    exact s_retZ (A := fun r => 0 ≤ r ∧ r < n) s3 (gz_op (gz_int (gz_op (C := fun _ => True) (gz_v (A := fun _ => True) (gv_var rfl) trivial) c (fun x y _ hy => by rw [hy]; exact ⟨by decide, by decide⟩) fun _ _ _ _ => trivial)) (M rfl) (fun x y _ hy => by rw [hy]; exact n0) fun x y _ hy => by rw [hy]; exact ⟨Int.emod_nonneg _ (by omega), Int.emod_lt_of_pos _ n0⟩) fun r H4 e4 hr' => k r H4 (e0.trans (e1.trans (e2.trans (e3.trans e4)))) hr'.1 hr'.2
end
end K25

/-! K19 -/
/-! K19: values of which only some is known; loops over such. -/
namespace K25
open PySem PySem.Spec PyProof.Rows L2
def Gw (A : V → Prop) (te : TE) (σ : L2.St) (G : Hp) : Prop := ∀ H, Sub G H → ∀ Q : VK, (∀ v H', Same H H' → A v → Q v H') → te σ H Q
/-- what is walked is known only so far -/
def GIz {δ : Type} (PD : List δ → Prop) (wi : TI) (g : TG) (σ : L2.St) (G : Hp) (up : δ → L2.St → L2.St) : Prop := ∀ H, Sub G H → ∀ R : It → Hp → Prop, (∀ ds J G' H', PD ds → Stp G H G' H' → Wkd J g ds up G' H' → R J H') → wi σ H R
section
variable {δ : Type} {K : PySem.W.Frag} {σ : L2.St} {G H : Hp} {A : V → Prop} {Az Bz : Int → Prop} {ta tb te tk : TE} {wi : TI} {g : TG} {up : δ → L2.St → L2.St} {PD : List δ → Prop} {Pre : Hp → Prop} {xs : List V} {a : Addr} {tt : TT} {vs : List Nat} {Φ : HO → Hp → Prop} {D : Ends} {rest : TS}
theorem Gw.gx (h : Gw A te σ G) : Gx Pre te σ G fun v G' => A v ∧ G' = G := fun H s _ Q q => h H s Q fun v H' e p => q v G H' ((Stp.refl s).grow e) ⟨p, rfl⟩
theorem Gw.imp {B : V → Prop} (h : Gw A te σ G) (i : ∀ v, A v → B v) : Gw B te σ G := fun H s Q q => h H s Q fun v H' e p => q v H' e (i v p)
theorem Gz.imp {B : Int → Prop} (h : Gz Az te σ G) (i : ∀ v, Az v → B v) : Gz B te σ G := fun H s Q q => h H s Q fun v H' e p => q v H' e (i v p)
theorem gw_z (h : Gz Az te σ G) : Gw (fun v => ∃ n, v = .int n ∧ Az n) te σ G := fun H s Q q => h H s Q fun n H' e p => q _ H' e ⟨n, rfl, p⟩
theorem gz_w (h : Gw (fun v => ∃ n, v = .int n ∧ Az n) te σ G) : Gz Az te σ G := fun H s Q q => h H s Q fun v H' e p => by obtain ⟨n, rfl, p⟩ := p; exact q n H' e p
theorem atI_in {α : Type} {xs : List α} {r : Int} (h0 : 0 ≤ r) (h1 : r < xs.length) : ∃ x, x ∈ xs ∧ xs[r.toNat]? = some x ∧ atI xs r = some x := by
  have hlt : r.toNat < xs.length := by omega
  have e := List.getElem?_eq_getElem hlt
  refine ⟨xs[r.toNat], List.getElem_mem hlt, e, ?_⟩
  have := atN e
  rwa [Int.toNat_of_nonneg h0] at this
theorem gw_ixL (h : Gv ta σ G (.ref a)) (ha : G a = some (.lst xs)) (hi : Gz (fun r => 0 ≤ r ∧ r < xs.length) tb σ G) : Gw (fun v => v ∈ xs) (tOp (rIxL K) ta tb) σ G := fun H s Q q =>
  h H s _ fun H1 e1 => hi H1 (s.same e1) _ fun r H2 e2 p => by
    obtain ⟨x, hx, _, e⟩ := atI_in p.1 p.2
    exact ⟨a, xs, r, x, rfl, rfl, SqL.of (((s.same e1).same e2).lst ha), e, q x H2 (e1.trans e2) hx⟩
theorem gw_ixN (h : Gls ta σ G xs) (hi : Gz (fun r => 0 ≤ r ∧ r < xs.length) tb σ G) : Gw (fun v => v ∈ xs) (tOp (rIxL K) ta tb) σ G := fun H s Q q =>
  h H s _ fun p H1 e1 hp h1 => hi H1 (s.same e1) _ fun r H2 e2 hr => by
    obtain ⟨x, hx, _, e⟩ := atI_in hr.1 hr.2
    exact ⟨p, xs, r, x, rfl, rfl, SqL.of (e2 _ _ h1), e, q x H2 (e1.trans e2) hx⟩
theorem gw_ixS {z : Str} (h : Gv ta σ G (.str z)) (hz : z.length ≤ sizeLine) (hi : Gz (fun r => 0 ≤ r ∧ r < z.length) tb σ G) : Gw (fun v => ∃ c, c ∈ z.cps.toList ∧ v = .str ⟨#[c]⟩) (tOp rIxS ta tb) σ G := fun H s Q q =>
  h H s _ fun H1 e1 => hi H1 (s.same e1) _ fun r H2 e2 p => by
    obtain ⟨c, hc, _, e⟩ := atI_in (xs := z.cps.toList) p.1 (by have := p.2; simpa [Str.length] using this)
    exact ⟨z, r, c, rfl, rfl, hz, e, q _ H2 (e1.trans e2) ⟨c, hc, rfl⟩⟩
theorem wk_range {n : Nat} {j : Nat} {G H : Hp} : Wkd (Itr 0 n) (gName j) (List.range n) (upN j fun i => .int (i : Nat)) G H :=
  ⟨fun H2 _ _ i d hd => by
    obtain ⟨hi, ed⟩ := List.getElem?_eq_some_iff.mp hd
    rw [List.length_range] at hi
    rw [List.getElem_range] at ed
    refine ⟨hi, fun v H3 y => ?_⟩
    obtain ⟨rfl, rfl⟩ := y
    subst ed
    rw [Int.zero_add]
    exact ⟨Same.refl _, fun σ' Q q => q _ (Same.refl _)⟩, fun H2 _ _ => by show n ≤ _; simp⟩
theorem giz_range {j : Nat} (h : Gz Az ta σ G) (hb : ∀ n, Az n → -1000000 ≤ n ∧ n < 1000000) : GIz (fun ds => ∃ n : Int, Az n ∧ ds = List.range n.toNat) (iRng1 (tCons ta tNil)) (gName j) σ G (upN j fun i => .int (i : Nat)) := fun H s R r =>
  h H s _ fun n H1 e1 p => ⟨n, rfl, by have := hb n p; omega, by have := hb n p; omega, r _ _ G H1 ⟨n, p, rfl⟩ ((Stp.refl s).grow e1) wk_range⟩
theorem gi_const {J : It} {ds : List δ} {G1 H1 : Hp} (wk : Wkd J g ds up G1 H1) : GI (Same H1) (fun _ H R => R J H) g σ G1 ds up := fun H2 s2 c R r =>
  r J G1 H2 (Stp.refl s2) ⟨fun H3 s3 f => wk.go H3 s3 (Frz.pre c f), fun H3 s3 f => wk.stop H3 s3 (Frz.pre c f)⟩
theorem lc_of (hi : GIz PD wi g σ G up) (k : ∀ ds G' (Pre : Hp → Prop) wi', PD ds → Same G G' → GI Pre wi' g σ G' ds up → (∀ H H', Same H H' → Pre H → Pre H') → Gm Pre (tLc wi' g tt te vs) σ G' Φ) : Gm Fr0 (tLc wi g tt te vs) σ G Φ := fun H s _ Q q =>
  hi H s _ fun ds J G1 H1 pd st wk => k ds G1 (Same H1) (fun _ H R => R J H) pd st.ex (gi_const wk) (fun _ _ e c => c.trans e) H1 st.sub (Same.refl _) Q fun p o G' H' st2 hp gp h' f => q p o G' H' (st.trans st2) (st.keep.free hp) gp h' f
theorem for_of {t : TS} (hi : GIz PD wi g σ G up) (s : Sub G H) (k : ∀ ds G' H' wi', PD ds → Stp G H G' H' → GI (Same H') wi' g σ G' ds up → tFor wi' g t D σ H') : tFor wi g t D σ H :=
  hi H s _ fun ds J G1 H1 pd st wk => k ds G1 H1 (fun _ H R => R J H) pd st (gi_const wk)
/-- a new pair is taken apart -/
theorem q_twoN {i j : Nat} {u v : V} (s : Sub G H) (h : Gu te σ G [u, v]) (k : ∀ H', Same H H' → rest D ((σ.set i (some u)).set j (some v)) H') : tSeq (tAsg te (gTup K 2 (gCons (gName i) (gCons (gName j) gNil)))) rest D σ H :=
  h H s _ fun p H1 e1 hp h1 => ⟨p, [u, v], rfl, SqT.of h1, rfl, _, _, rfl, _, _, rfl, rfl, k H1 e1⟩
/-- a value and a new list -/
theorem q_twoL {i j : Nat} {u : V} {mk : HO} (s : Sub G H) (h1 : Gv ta σ G u) (h2 : Gn mk tb σ G) (k : ∀ p H', Same H H' → H p = none → H' p = some mk → rest D ((σ.set i (some u)).set j (some (.ref p))) H') : tSeq (tAsg (tTup (tCons ta (tCons tb tNil))) (gTup K 2 (gCons (gName i) (gCons (gName j) gNil)))) rest D σ H :=
  h1 H s _ fun H1 e1 => h2 H1 (s.same e1) _ fun p H2 e2 hp hp2 => ⟨few rfl, fun q hq => ⟨q, [u, .ref p], rfl, SqT.of upd_same, rfl, _, _, rfl, _, _, rfl, rfl, k p _ ((e1.trans e2).trans (Same.put hq)) (e1.free hp) (Same.put hq _ _ hp2)⟩⟩
theorem all2_ex {α β γ : Type} {P : γ → Prop} {f : γ → β} {l : List α} {m : List β} (h : All2 (fun _ v => ∃ c, P c ∧ v = f c) l m) : ∃ cs : List γ, m = cs.map f ∧ (∀ c ∈ cs, P c) ∧ cs.length = l.length := by
  induction h with
  | nil => exact ⟨[], rfl, fun _ h => (nomatch h), rfl⟩
  | cons r _ ih =>
    obtain ⟨c, pc, rfl⟩ := r
    obtain ⟨cs, rfl, h2, h3⟩ := ih
    exact ⟨c :: cs, rfl, fun x hx => by rcases List.mem_cons.mp hx with rfl | hx; exact pc; exact h2 x hx, by rw [List.length_cons, List.length_cons, h3]⟩
end
end K25

/-! F22 -/
namespace K25
open PySem PySem.Spec PyProof.Rows L2
/-! ### names out of the bag -/
abbrev ltrs : Str := "abcdefghijklmnopqrstuvwxyz"
theorem occ_all : ∀ c ∈ List.range 26, Builtin.Str.occurrences ltrs ⟨#[97 + c]⟩ 0 ltrs.length 1 = [c] := by decide +kernel
abbrev wordsS : Str := "own not none some late now each done mark link tag row new self gone other"
def wordsL : List Str := Txt.split wordsS " "
instance (s : Str) : Decidable (Nm s) := by unfold Nm; infer_instance
theorem words_nm : ∀ w ∈ wordsL, Nm w := by unfold wordsL; decide +kernel
theorem words_len : wordsL.length = 16 := by unfold wordsL; decide +kernel
theorem ltrs_chars : ltrs.cps.toList = (List.range 26).map (97 + ·) := by decide +kernel
theorem turn_all : ∀ i ∈ List.range 26, ((∀ c ∈ ltrs.cps.toList, c ∈ (cutS ltrs (some (i : Int)) none ++ cutS ltrs none (some (i : Int))).cps.toList) ∧ ∀ c ∈ (cutS ltrs (some (i : Int)) none ++ cutS ltrs none (some (i : Int))).cps.toList, 97 ≤ c ∧ c ≤ 122) ∧ (cutS ltrs (some (i : Int)) none).length + (cutS ltrs none (some (i : Int))).length = 26 := by decide +kernel
abbrev sg (c : Nat) : Str := ⟨#[c]⟩
theorem joinL_nil : ∀ l : List (List Nat), TL.joinL [] l = l.flatten
  | [] => rfl
  | [p] => by simp [TL.joinL]
  | p :: q :: r => by
    show p ++ ([] ++ TL.joinL [] (q :: r)) = _
    rw [joinL_nil (q :: r)]
    simp
theorem join_sg (cs : List Nat) : (Txt.join "" (cs.map sg)).cps.toList = cs := by
  have := TL.tl_join "" (cs.map sg)
  rw [← TL.join_eq] at this
  show TL.tl _ = _
  rw [this, show TL.tl ("" : Str) = [] from rfl, joinL_nil, List.map_map]
  induction cs with
  | nil => rfl
  | cons c cs ih =>
    rw [List.map_cons, List.flatten_cons]
    exact congrArg (c :: ·) (ih (TL.tl_join "" (cs.map sg) |> fun h => by rw [TL.join_eq]; exact h))
theorem cand_tl (c : Nat) (R : Str) : (sg c ++ R).cps.toList = c :: R.cps.toList := by
  have := TL.tl_append (sg c) R
  exact this
theorem cand_inj {c d : Nat} {R : Str} (h : sg c ++ R = sg d ++ R) : c = d := by
  have := congrArg (fun s : Str => s.cps.toList) h
  simp only [cand_tl] at this
  exact (List.cons.inj this).1
theorem cand_new {R : Str} {ns : List Str} (h : ns.length < 26) : ∃ c ∈ ltrs.cps.toList, (sg c ++ R) ∉ ns := by
  apply Classical.byContradiction
  intro z
  have all : ∀ c ∈ ltrs.cps.toList, (sg c ++ R) ∈ ns := fun c hc => by
    apply Classical.byContradiction
    intro y
    exact z ⟨c, hc, y⟩
  have nd : (ltrs.cps.toList.map fun c => sg c ++ R).Nodup := by
    refine List.pairwise_map.mpr (List.Pairwise.imp (R := fun a b => a ≠ b) (fun hne e => hne (cand_inj e)) ?_)
    rw [ltrs_chars]
    exact List.pairwise_map.mpr ((List.nodup_range).imp fun h e => h (by omega))
  have := nodup_len nd fun x hx => by
    obtain ⟨c, hc, rfl⟩ := List.mem_map.mp hx
    exact all c hc
  rw [List.length_map, ltrs_chars, List.length_map, List.length_range] at this
  omega
def BagAt (G : Hp) (b : Addr) : Prop := ∃ (l : Addr) (ds : List Int), G b = some (BagO b l) ∧ G l = some (.lst (ds.map V.int)) ∧ ds.length ≤ 63
theorem BagAt.mono {G G' : Hp} {b : Addr} (h : BagAt G b) (e : Same G G') : BagAt G' b := let ⟨l, ds, h1, h2, h3⟩ := h; ⟨l, ds, e _ _ h1, e _ _ h2, h3⟩
theorem gz_take {σ : L2.St} {G : Hp} {b : Addr} {t0 t1 : TE} {n : Int} {E : XK} (hb : BagAt G b) (h0 : Gv t0 σ G (.ref b)) (h1 : Gv t1 σ G (.int n)) (n0 : 0 < n) (nM : n < 1073741824) : Gz (fun r => 0 ≤ r ∧ r < n) (tCall spTake [] E (tCons t0 (tCons t1 tNil))) σ G := fun H s Q q => by
  obtain ⟨l, ds, e1, e2, e3⟩ := hb
  exact ga_cons h0 (ga_cons h1 ga_nil) H s _ fun H1 s1 => ⟨b, l, ds, n, G, rfl, s.same s1, e1, e2, e3, n0, nM, fun r H' e z1 z2 => q r H' (s1.trans e) ⟨z1, z2⟩⟩
theorem cutV_mapG {α : Type} (f : α → V) (xs : List α) (l u : Option Int) : ∃ ys : List α, cutV (xs.map f) l u = ys.map f ∧ ys.length ≤ xs.length ∧ ∀ y ∈ ys, y ∈ xs := by
  unfold cutV
  refine ⟨(xs.drop (HT.sIx (xs.map f).length 0 l)).take (HT.sIx (xs.map f).length (xs.map f).length u - HT.sIx (xs.map f).length 0 l), by rw [List.map_take, List.map_drop], ?_, fun y hy => List.mem_of_mem_drop (List.mem_of_mem_take hy)⟩
  rw [List.length_take, List.length_drop]
  omega
theorem cut_tail {α : Type} (f : α → V) (x : α) (xs : List α) : cutV ((x :: xs).map f) (some 1) none = xs.map f := by
  unfold cutV
  have e : HT.sIx ((x :: xs).map f).length 0 (some 1) = 1 := by
    rw [List.length_map, List.length_cons]
    unfold HT.sIx
    simp
    try omega
  rw [e]
  have e2 : HT.sIx ((x :: xs).map f).length ((x :: xs).map f).length none = ((x :: xs).map f).length := rfl
  rw [e2]
  simp
  exact List.take_of_length_le (by rw [List.length_map]; exact Nat.le_refl _)
theorem gz_intE {σ : L2.St} {G : Hp} {A : Int → Prop} {te : TE} {i : Int} (h : Gz A te σ G) : Gz (fun n => n = 0 ∨ n = 1) (tCB rInt1 (tCons (tOp rEq te (tC (.int i))) tNil)) σ G := fun H s Q q =>
  h H s _ fun n H1 e1 p => ⟨rfl, .inr ⟨_, rfl, q _ H1 e1 (by cases (decide (V.int n = V.int i)) <;> simp)⟩⟩
section
variable {σ : L2.St} {G : Hp} {te ta tb : TE} {lo hi : TO} {z x y : Str} {l u : Option Int}
theorem gv_slS (h : Gv te σ G (.str z)) (hz : z.length ≤ sizeLine) (hlo : ∀ H Q, Q l H → lo σ H Q) (hhi : ∀ H Q, Q u H → hi σ H Q) : Gv (tSl rSlS te lo hi) σ G (.str (cutS z l u)) := fun H s Q q =>
  h H s _ fun H1 e1 => hlo H1 _ (hhi H1 _ ⟨z, rfl, hz, q H1 e1⟩)
theorem to_var {i : Nat} {n : Int} (h : σ[i]? = some (some (.int n))) : ∀ H Q, Q (some n) H → tPart (tVar i) σ H Q := fun H Q q => ⟨_, h, n, rfl, q⟩
theorem gv_addS (ha : Gv ta σ G (.str x)) (hb : Gv tb σ G (.str y)) (hl : x.length + y.length ≤ sizeLine) : Gv (tOp (fun x y H Q => ∃ i j, x = .str i ∧ y = .str j ∧ i.length + j.length ≤ sizeLine ∧ Q (.str (i ++ j)) H) ta tb) σ G (.str (x ++ y)) := fun H s Q q =>
  ha H s _ fun H1 e1 => hb H1 (s.same e1) _ fun H2 e2 => ⟨x, y, rfl, rfl, hl, q H2 (e1.trans e2)⟩
/-- s.index(x) -/
theorem gv_sindex {K : PySem.W.Frag} {i : Nat} {r : List Nat} (ha : Gv ta σ G (.str x)) (hb : Gv tb σ G (.str y)) (e : Builtin.Str.occurrences x y 0 x.length 1 = i :: r) : Gv (tBM K "str" (fun x xs H Q => ∃ a b i rest, x = .str a ∧ xs = [.str b] ∧ Builtin.Str.occurrences a b 0 a.length 1 = i :: rest ∧ Q (.int (i : Nat)) H) ta (tCons tb tNil)) σ G (.int (i : Nat)) := fun H s Q q =>
  ha H s _ fun H1 e1 => ⟨rfl, ga_cons hb ga_nil H1 (s.same e1) _ fun H2 e2 => ⟨x, y, i, r, rfl, rfl, e, q H2 (e1.trans e2)⟩⟩
end
theorem gm_imp {Pre : Hp → Prop} {te : TE} {σ : L2.St} {G : Hp} {Φ Ψ : HO → Hp → Prop} (h : Gm Pre te σ G Φ) (i : ∀ o G', Φ o G' → Ψ o G') : Gm Pre te σ G Ψ := fun H s c Q q => h H s c Q fun p o G' H' st hp gp h' f => q p o G' H' st hp gp h' (i o G' f)
section
variable {P : Program} {w : World} {K : PySem.W.Frag} {mg : Str → Option Value} {base : Heap}
def spNames : Sp := fun vs H Q _ => ∃ (b : Addr) (m : Nat) (G : Hp), vs = [.ref b, .int (m : Nat)] ∧ Sub G H ∧ BagAt G b ∧ m ≤ 20 ∧ ∀ p H' (ns : List Str), Same H H' → H p = none → H' p = some (sL ns) → ns.Nodup → (∀ n ∈ ns, Nm n) → ns.length = m → Q (.ref p) H'
abbrev N_w_names : List Str := ["_law_bag_here", "_law_many", "_law_letters", "_law_found", "_law_words", "_law_k", "_law_signs", "_law_turn", "_law_at", "_law_rest", "_law_some", "_law_one"]
theorem sc_w_names : FnScope N_w_names ["_law_bag_here", "_law_many"] (defScope s_w_names) := ⟨rfl, rfl, rfl, by decide +kernel, rfl, by decide +kernel, by decide +kernel⟩
-- slots: 0 _law_bag_here*, 1 _law_many, 2 _law_letters*, 3 _law_found*, 4 _law_words, 5 _law_k, 6 _law_signs, 7 _law_turn, 8 _law_at, 9 _law_rest*, 10 _law_some, 11 _law_one
theorem c_w_names (T : Tx K mg) : Cal P w K mg base 2 "_law_names" spNames := by
  refine ⟨_, _, ["_law_bag_here", "_law_many"], fn_body T.f_w_names sc_w_names (fun vs H Q E h => by obtain ⟨_, _, _, rfl, _⟩ := h; rfl) (fun cdv A outer s H vs Q E hr h => ?_), T.g_w_names, T.f_w_names.kp, T.f_w_names.bindsN fun _ _ _ _ _ _ us hl => match us, hl with | [_, _], _ => rfl⟩
  obtain ⟨b, m, G, rfl, sG, hb, hm, k⟩ := h
  have hu := hu_of hr
  refine ⟨_,
    (pss_cons (ps_asg (pe_tup (pa_cons pe_str (pa_cons (pe_lst pa_nil) pa_nil))) (pg_tupK (n := 2) rfl rfl (pgs_cons (pg_name (i := 2) sc_w_names.nd rfl (Or.inr rfl)) (pgs_cons (pg_name (i := 3) sc_w_names.nd rfl (Or.inr rfl)) pgs_nil))))
    (pss_cons (ps_set (i := 4) sc_w_names.nd rfl (Or.inl rfl) (pe_split pe_str pe_str))
    (pss_cons (ps_for PassesOwn.never rfl (pi_range1 rfl T.b_range (pa_cons (pv 1) pa_nil)) (pg_name (i := 5) sc_w_names.nd rfl (Or.inl rfl))
      (pss_cons (ps_setLc (i := 6) rfl sc_w_names.nd rfl rfl (sw_true rfl rfl rfl (by decide +kernel)) (pi_range1 rfl T.b_range (pa_cons (pe_ix (ix_listK rfl) (pe_lst (pa_cons pe_int (pa_cons pe_int (pa_cons pe_int (pa_cons pe_int pa_nil))))) (pe_cal (c_w_take T) hr (by decide) rfl (pa_cons (pv 0) (pa_cons pe_int pa_nil))) (fun _ _ => rfl)) pa_nil)) (blkOk_by (own := [("_law_turn", 7)]) (N := N_w_names) (sc := defScope s_w_names) (by decide +kernel)) (fun _ _ _ _ _ => (pg_name (i := 7) sc_w_names.nd rfl (Or.inl rfl))) (fun _ _ _ _ _ => pts_nil) (fun _ _ _ _ _ => (pe_ix ix_str (pv 2) (pe_cal (c_w_take T) hr (by decide) rfl (pa_cons (pv 0) (pa_cons pe_int pa_nil))) (fun _ _ => rfl))))
      (pss_cons (ps_asg (pe_tup (pa_cons (pe_bmK rfl PySem.F.plainAttrs_str PySem.F.slot_str_index PySem.F.type_str_index mt_sindex (pv 2) (pa_cons (pe_ix (ix_listK rfl) (pv 6) pe_int (fun _ _ => rfl)) pa_nil)) (pa_cons (pe_join pe_str (pe_slice (sl_listK rfl) (pv 6) (po_some pe_int) po_none)) pa_nil))) (pg_tupK (n := 2) rfl rfl (pgs_cons (pg_name (i := 8) sc_w_names.nd rfl (Or.inl rfl)) (pgs_cons (pg_name (i := 9) sc_w_names.nd rfl (Or.inr rfl)) pgs_nil))))
      (pss_cons (ps_set (i := 10) sc_w_names.nd rfl (Or.inl rfl) (pe_op op_cat (pe_op op_rep (pe_slice (sl_listK rfl) (pv 4) (po_some (pv 8)) po_none) (pe_callTy call_int1 (by rfl) T.b_int (by decide +kernel) (pa_cons (pe_cmpR op_eq (pe_cal (c_w_take T) hr (by decide) rfl (pa_cons (pv 0) (pa_cons pe_int pa_nil))) pe_int (nomark _)) pa_nil))) (pe_lc rfl sc_w_names.nd (pi_str (pe_op op_add_str (pe_slice sl_str (pv 2) (po_some (pv 8)) po_none) (pe_slice sl_str (pv 2) po_none (po_some (pv 8))))) (blkOk_by (own := [("_law_one", 11)]) (N := N_w_names) (sc := defScope s_w_names) (by decide +kernel)) (fun _ _ _ _ _ => (pg_name (i := 11) sc_w_names.nd rfl (Or.inl rfl))) (fun _ _ _ _ _ => pts_nil) (fun _ _ _ _ _ => (pe_op op_add_str (pv 11) (pv 9))))))
      (pss_one (ps_expr (pe_bmK rfl PySem.F.plainAttrs_list PySem.F.slot_list_append PySem.F.type_list_append mt_append (pv 3) (pa_cons (pe_ix (ix_listK rfl) (pe_lc rfl sc_w_names.nd (pi_listK rfl (pv 10)) (blkOk_by (own := [("_law_one", 11)]) (N := N_w_names) (sc := defScope s_w_names) (by decide +kernel)) (fun _ _ _ _ _ => (pg_name (i := 11) sc_w_names.nd rfl (Or.inl rfl))) (fun _ _ _ _ _ => (pts_one (pt_cmpR (op_notIn_seqK rfl) (pv 11) (pv 3) (by rfl)))) (fun _ _ _ _ _ => (pv 11))) pe_int (fun _ _ => rfl)) pa_nil))))))))
    (pss_one (ps_ret (pv 3)))))), ?_⟩
  refine q_twoL sG gv_c (gl_lst ga_nil (by decide)) fun fd H1 e1 hf hf' => ?_
  have st1 : Stp G H G H1 := (Stp.refl sG).grow e1
  have ow1 : Own H G fd H1 (sL []) := .made (Stp.refl sG) e1 hf hf'
  refine q_setN st1.sub (mk := sL wordsL) (fun H s Q q => ⟨⟨_, rfl⟩, wordsS, " ", rfl, rfl, rfl, by rw [sizeLine_eq]; decide +kernel, fun p hp => q p _ (Same.put hp) hp upd_same⟩) fun ws H2 e2 hw hw' => ?_
  have st2 := (st1.grow e2).tell (st1.sub.non hw) (st1.keep.free hw) hw'
  have nfw : fd ≠ ws := fun z => by rw [← z, hf'] at hw; cases hw
  have ow2 : Own H (upd G ws (sL wordsL)) fd H2 (sL []) := ⟨ow1.h0, by rw [upd_ne nfw]; exact ow1.g, e2 _ _ hf'⟩
  have hb2 : BagAt (upd G ws (sL wordsL)) b := hb.mono (Same.put (st1.sub.non hw))
  have hws : (upd G ws (sL wordsL)) ws = some (sL wordsL) := upd_same
  clear hw hw' nfw
  generalize upd G ws (sL wordsL) = G2 at *
  refine q_of (s_for (Pre := Fr0) (G0 := G) (H0 := H) (ds := List.range m) (up := upN 5 fun i => .int (i : Nat)) (Iv := fun (i : Nat) σ2 G5 H5 => ∃ v5 v6 v7 v8 v9 v10 v11 ns, σ2 = [some (.ref b), some (.int (m : Nat)), some (.str ltrs), some (.ref fd), some (.ref ws), v5, v6, v7, v8, v9, v10, v11] ∧ Same G2 G5 ∧ Own H G5 fd H5 (sL ns) ∧ ns.Nodup ∧ (∀ n ∈ ns, Nm n) ∧ ns.length = i)
    st2 (gi_range1 (gv_var rfl) (by omega)) trivial (by
      rintro _ _ _ _ _ e ⟨v5, v6, v7, v8, v9, v10, v11, ns, h1, h2, h3, h4⟩
      exact ⟨v5, v6, v7, v8, v9, v10, v11, ns, h1, h2, h3.grow e, h4⟩) (fun G5 H5 s5 => ⟨_, _, _, _, _, _, _, [], rfl, s5.ex, ow2.step s5, List.nodup_nil, fun _ h => (nomatch h), rfl⟩) (fun G5 H5 s5 i d hd σ2 G6 H6 lp iv => ?_) fun G6 H6 σ2 lp iv => ?_)
  · obtain ⟨v5, v6, v7, v8, v9, v10, v11, ns, rfl, eG, own, nd, nn, hl⟩ := iv
    have hb6 := hb2.mono eG
    have him : i < m := by
      have := (List.getElem?_eq_some_iff.mp hd).1
      simpa using this
    -- signs
    refine q_setX lp.st.sub (Φ := fun v G' => ∃ (p : Addr) (cs : List Nat), v = .ref p ∧ G' p = some (.lst ((cs.map sg).map V.str)) ∧ (∀ c ∈ cs, 97 ≤ c ∧ c ≤ 122) ∧ 1 ≤ cs.length ∧ cs.length ≤ 8) (ge_gm (lc_of (Φ := fun o G' => ∃ cs : List Nat, o = .lst ((cs.map sg).map V.str) ∧ (∀ c ∈ cs, 97 ≤ c ∧ c ≤ 122) ∧ 1 ≤ cs.length ∧ cs.length ≤ 8)
      (giz_range (Az := fun r => 1 ≤ r ∧ r ≤ 8) (gz_w ((gw_ixN (gl_lst (ga_cons gv_c (ga_cons gv_c (ga_cons gv_c (ga_cons gv_c ga_nil)))) (few rfl)) (gz_take hb6 (gv_var rfl) gv_c (by decide) (by decide))).imp fun v hv => by
        simp only [List.mem_cons, List.not_mem_nil, or_false] at hv
        rcases hv with rfl | rfl | rfl | rfl <;> exact ⟨_, rfl, by decide, by decide⟩)) fun n hn => by omega)
      fun ds G' Pre wi' pd e gi st => ?_) fun p o G' e gp ho => ?_) fun sv G7 H7 s7 hsv => ?_
    · obtain ⟨n, hn, rfl⟩ := pd
      refine gm_imp (gm_lc (pf := fun _ => true) (fun _ v _ => ∃ c, (97 ≤ c ∧ c ≤ 122) ∧ v = V.str (sg c)) (fun _ _ _ _ _ h => h) gi (by rw [List.length_range]; omega) (fun _ _ => rfl) (fun _ _ _ _ => gt_yes) (fun d hd _ G'' e'' => (gw_ixS (gv_var rfl) (by decide +kernel) ((gz_take (hb6.mono (e.trans e'')) (gv_var rfl) gv_c (by decide) (by decide)).imp fun r hr => ⟨hr.1, by exact hr.2⟩)).gx.imp fun v G3 _ hv => by
        obtain ⟨⟨c, hc, rfl⟩, _⟩ := hv
        rw [ltrs_chars] at hc
        obtain ⟨c', hc', rfl⟩ := List.mem_map.mp hc
        have := List.mem_range.mp hc'
        exact ⟨97 + c', by omega, rfl⟩) st) fun o G'' ho => ?_
      obtain ⟨xs, rfl, al⟩ := ho
      rw [List.filter_eq_self.mpr (fun _ _ => rfl)] at al
      obtain ⟨cs, rfl, h2, h3⟩ := all2_ex (f := fun c => V.str (sg c)) al
      rw [List.length_range] at h3
      exact ⟨cs, by rw [List.map_map]; rfl, h2, by omega, by omega⟩
    · obtain ⟨cs, rfl, h⟩ := ho
      exact ⟨p, cs, rfl, upd_same, h⟩
    obtain ⟨sp, cs, rfl, hsp, hcs, c1, c8⟩ := hsv
    have lp7 := lp.step s7
    have own7 := own.step s7
    have eG7 := eG.trans s7.ex
    obtain ⟨c0, cs', rfl⟩ : ∃ c0 cs', cs = c0 :: cs' := by
      cases cs with
      | nil => simp at c1
      | cons c cs => exact ⟨_, _, rfl⟩
    have hc0 := hcs c0 List.mem_cons_self
    have hocc : Builtin.Str.occurrences ltrs (sg c0) 0 ltrs.length 1 = [c0 - 97] := by
      have := occ_all (c0 - 97) (List.mem_range.mpr (by omega))
      rwa [show 97 + (c0 - 97) = c0 by omega] at this
    have lcs : cs'.length ≤ 7 := by rw [List.length_cons] at c8; omega
    refine q_twoN (u := .int ((c0 - 97 : Nat) : Int)) (v := .str (Txt.join "" (cs'.map sg))) lp7.st.sub (gu_tup (ga_cons (gv_sindex (gv_var rfl) (gv_op (gv_var rfl) gv_c (rv_ixL hsp (at0 _ _))) hocc) (ga_cons (fun H s Q q => ⟨⟨_, rfl⟩, gl_slL (gv_var rfl) hsp to_int to_none (cut_tail V.str (sg c0) (cs'.map sg)) H s _ fun p H1 e1 hp h1 => ⟨"", p, cs'.map sg, rfl, rfl, .inl (SqL.of h1), by
      have : ∀ l : List Nat, ((l.map sg).map (·.length)).sum = l.length := fun l => by
        induction l with
        | nil => rfl
        | cons c l ih => rw [List.map_cons, List.map_cons, List.sum_cons, ih, List.length_cons]; show 1 + _ = _; omega
      rw [this, show ("" : Str).length = 0 from rfl]
      omega, q H1 e1⟩⟩) ga_nil)) (few rfl)) fun H8 e8 => ?_
    have lp8 := lp7.grow e8
    have own8 := own7.grow e8
    have hR := join_sg cs'
    have lR : (Txt.join "" (cs'.map sg)).length = cs'.length := by
      have := congrArg List.length hR
      simpa [Str.length] using this
    generalize Txt.join "" (cs'.map sg) = R at *
    have nmC : ∀ c, 97 ≤ c ∧ c ≤ 122 → Nm (sg c ++ R) := fun c hc => by
      have e := cand_tl c R
      have el : (sg c ++ R).length = cs'.length + 1 := by
        have := congrArg List.length e
        rw [List.length_cons, hR] at this
        simpa [Str.length] using this
      refine ⟨by omega, by omega, fun x hx => ?_⟩
      rw [e, hR] at hx
      rcases List.mem_cons.mp hx with rfl | hx
      · exact hc
      · exact hcs x (List.mem_cons_of_mem _ hx)
    obtain ⟨⟨t1, t2⟩, t3⟩ := turn_all (c0 - 97) (List.mem_range.mpr (by omega))
    have ws7 := eG7 _ _ hws
    have hb7 := hb2.mono eG7
    refine q_setX lp8.st.sub (Φ := fun v G' => ∃ (p : Addr) (ss : List Str), v = .ref p ∧ G' p = some (sL ss) ∧ ss.length ≤ 1000 ∧ (∀ s ∈ ss, Nm s) ∧ ∀ c ∈ ltrs.cps.toList, (sg c ++ R) ∈ ss) (fun H s _ Q q => ?_) fun sv G9 H9 s9 hsv => ?_
    · obtain ⟨ys, ey, ly, my⟩ := cutV_mapG V.str wordsL (some ((c0 - 97 : Nat) : Int)) none
      rw [words_len] at ly
      refine gl_slL (gv_var rfl) ws7 (to_var rfl) to_none ey H s _ fun p1 H1 e1 hp1 h1 => ?_
      refine gz_intE (gz_take hb7 (gv_var rfl) gv_c (by decide) (by decide)) H1 (s.same e1) _ fun kk H2 e2 hk => ⟨p1, kk, _, rfl, rfl, e2 _ _ h1, by omega, by omega, ?_, fun p2 hp2 => ?_⟩
      · rw [List.length_map, sizeLine_eq]
        have : ys.length * kk.toNat ≤ 16 * 1 := Nat.mul_le_mul ly (by omega)
        omega
      have e02 := (e1.trans e2).trans (Same.put (o := .lst (List.replicate kk.toNat (ys.map V.str)).flatten) hp2)
      have erep : (List.replicate kk.toNat (ys.map V.str)).flatten = ((List.replicate kk.toNat ys).flatten).map V.str := by
        rw [List.map_flatten, List.map_replicate]
      have lrep : ((List.replicate kk.toNat ys).flatten).length ≤ 16 := by
        rcases hk with rfl | rfl
        · simp
        · simp; omega
      have h2' : (upd H2 p2 (.lst (List.replicate kk.toNat (ys.map V.str)).flatten)) p2 = some (.lst (((List.replicate kk.toNat ys).flatten).map V.str)) := by rw [upd_same, erep]
      refine gl_lc (pf := fun _ => true) (fun c => V.str (sg c ++ R)) (gi_str (x := cutS ltrs (some ((c0 - 97 : Nat) : Int)) none ++ cutS ltrs none (some ((c0 - 97 : Nat) : Int))) (gv_addS (gv_slS (gv_var rfl) (by rw [sizeLine_eq]; decide +kernel) (to_var rfl) to_none) (gv_slS (gv_var rfl) (by rw [sizeLine_eq]; decide +kernel) to_none (to_var rfl)) (by rw [t3, sizeLine_eq]; omega))) ?_ (fun _ _ => rfl) (fun _ _ => gt_yes) (fun c hc _ => gv_addS (gv_var rfl) (gv_var rfl) (by rw [lR, sizeLine_eq]; show 1 + _ ≤ _; omega)) _ (s.same e02) _ fun p3 H3 e3 hp3 h3 => ?_
      · have : (cutS ltrs (some ((c0 - 97 : Nat) : Int)) none ++ cutS ltrs none (some ((c0 - 97 : Nat) : Int))).cps.toList.length = 26 := by
          rw [show (cutS ltrs (some ((c0 - 97 : Nat) : Int)) none ++ cutS ltrs none (some ((c0 - 97 : Nat) : Int))).cps.toList = _ from TL.tl_append _ _, List.length_append]
          simpa [Str.length, TL.tl] using t3
        omega
      have l26 : (cutS ltrs (some ((c0 - 97 : Nat) : Int)) none ++ cutS ltrs none (some ((c0 - 97 : Nat) : Int))).cps.toList.length = 26 := by
        rw [show (cutS ltrs (some ((c0 - 97 : Nat) : Int)) none ++ cutS ltrs none (some ((c0 - 97 : Nat) : Int))).cps.toList = _ from TL.tl_append _ _, List.length_append]
        simpa [Str.length, TL.tl] using t3
      rw [List.filter_eq_self.mpr (fun _ _ => rfl)] at h3
      generalize (cutS ltrs (some ((c0 - 97 : Nat) : Int)) none ++ cutS ltrs none (some ((c0 - 97 : Nat) : Int))).cps.toList = chs at *
      refine ⟨p2, p3, _, _, rfl, rfl, e3 _ _ h2', h3, by rw [List.length_map, List.length_map, sizeLine_eq]; omega, fun p4 hp4 => ?_⟩
      have e04 := (e02.trans e3)
      refine q (.ref p4) (upd G7 p4 (sL ((List.replicate kk.toNat ys).flatten ++ chs.map fun c => sg c ++ R))) _ (((Stp.refl s).grow (e04.trans (Same.put hp4))).tell (s.non (e04.free hp4)) (e04.free hp4) ?_) ⟨p4, _, rfl, upd_same, ?_, ?_, ?_⟩
      · rw [upd_same]
        show _ = some (HO.lst _)
        rw [List.map_append, List.map_map]
        rfl
      · rw [List.length_append, List.length_map]; omega
      · intro x hx
        rcases List.mem_append.mp hx with hx | hx
        · obtain ⟨l, hl, hx⟩ := List.mem_flatten.mp hx
          rw [(List.mem_replicate.mp hl).2] at hx
          exact words_nm x (my x hx)
        · obtain ⟨c, hc, rfl⟩ := List.mem_map.mp hx
          exact nmC c (t2 c hc)
      · intro c hc
        exact List.mem_append_right _ (List.mem_map.mpr ⟨c, t1 c hc, rfl⟩)
    obtain ⟨p, ss, rfl, hss, lss, nss, css⟩ := hsv
    have lp9 := lp8.step s9
    have own9 := own8.step s9
    have told := lp9.st.tell own9.g own9.h0 own9.at_
    have hss2 : (upd G9 fd (sL ns)) p = some (sL ss) := Same.put own9.g _ _ hss
    have hne : (ss.filter fun x => !decide (x ∈ ns)) ≠ [] := fun z => by
      obtain ⟨c, hc, hn⟩ := cand_new (R := R) (ns := ns) (by omega)
      have : (sg c ++ R) ∈ ss.filter fun x => !decide (x ∈ ns) := List.mem_filter.mpr ⟨css c hc, by simpa using hn⟩
      rw [z] at this
      cases this
    obtain ⟨x, r, hF⟩ : ∃ x r, (ss.filter fun x => !decide (x ∈ ns)) = x :: r := by
      cases z : ss.filter fun x => !decide (x ∈ ns) with
      | nil => exact absurd z hne
      | cons x r => exact ⟨x, r, rfl⟩
    have hx := List.mem_filter.mp (show x ∈ ss.filter fun x => !decide (x ∈ ns) by rw [hF]; exact List.mem_cons_self)
    have hxn : x ∉ ns := by simpa using hx.2
    refine s_append told.sub (v := .str x) (gv_var rfl) (fun H s Q q => gl_lc (pf := fun x => !decide (x ∈ ns)) V.str (gi_list (emb := V.str) (gv_var rfl) hss2) (by omega) (fun _ _ => rfl) (fun y hy => gt_test (gv_op (gv_var rfl) (gv_var rfl) (rv_inS upd_same))) (fun y hy _ => gv_var rfl) H s _ fun p1 H1 e1 hp1 h1 => ⟨p1, _, 0, .str x, rfl, rfl, SqL.of h1, by rw [hF]; exact at0 _ _, q H1 e1⟩) own9.at_ (by rw [List.length_map, sizeLine_eq]; omega) fun H10 e10 => ⟨G9, (lp9.grow e10).write (own9.grow e10) (by simp), _, _, _, _, _, _, _, ns ++ [x], rfl, eG7.trans s9.ex, ?_, ?_, ?_, ?_⟩
    · rw [show (ns.map V.str ++ [V.str x] : List V) = (ns ++ [x]).map V.str by rw [List.map_append]; rfl]
      exact (own9.grow e10).write
    · rw [List.nodup_append]
      exact ⟨nd, by simp, fun a ha b hb e => hxn (by rw [← List.mem_singleton.mp hb, ← e]; exact ha)⟩
    · intro n hn
      rcases List.mem_append.mp hn with hn | hn
      · exact nn n hn
      · rw [List.mem_singleton.mp hn]; exact nss x hx.1
    · rw [List.length_append, hl]; rfl
  · obtain ⟨v5, v6, v7, v8, v9, v10, v11, ns, rfl, eG, own, nd, nn, hl⟩ := iv
    rw [List.length_range] at hl
    dsimp only
    exact s_ret lp.st.sub (gv_var rfl) fun H7 e7 => k fd H7 ns (lp.st.keep.trans e7) ow1.h0 (e7 _ _ own.at_) nd nn hl
end
end K25

/-! F23 -/
namespace K25
open PySem PySem.Spec PyProof.Rows L2
/-! ### tests of which nothing is known -/
def Gq (tt : TT) (σ : L2.St) (G : Hp) : Prop := ∀ H, Sub G H → ∀ Q : Bool → Hp → Prop, (∀ b H', Same H H' → Q b H') → tt σ H Q
section
variable {K : PySem.W.Frag} {σ : L2.St} {G H : Hp} {A : Int → Prop} {t u : TT} {te ta tb : TE} {b : Bool} {n : Int} {x y : TS} {D : Ends} {xs : List V} {v : V} {i : Int}
theorem gq_of (h : Gt t σ G b) : Gq t σ G := fun H s Q q => h H s Q fun H' e => q b H' e
theorem gq_z {f : Int → Int → Bool} (ha : Gz A ta σ G) (hb : Gv tb σ G (.int n)) : Gq (tTest (tOp (rI0 fun i j => .bl (f i j)) ta tb)) σ G := fun H s Q q =>
  ha H s _ fun x H1 e1 _ => hb H1 (s.same e1) _ fun H2 e2 => ⟨x, n, rfl, rfl, f x n, rfl, q _ H2 (e1.trans e2)⟩
theorem gq_zEq (ha : Gz A ta σ G) (hb : Gv tb σ G (.int n)) : Gq (tTest (tOp rEq ta tb)) σ G := fun H s Q q =>
  ha H s _ fun x H1 e1 _ => hb H1 (s.same e1) _ fun H2 e2 => ⟨rfl, _, rfl, q _ H2 (e1.trans e2)⟩
theorem gq_and (h1 : Gq t σ G) (h2 : Gq u σ G) : Gq (tAnd t u) σ G := fun H s Q q => h1 H s _ fun b H1 e1 => by
  cases b with
  | true => exact h2 H1 (s.same e1) Q fun b H2 e2 => q b H2 (e1.trans e2)
  | false => exact q false H1 e1
theorem gq_or (h1 : Gq t σ G) (h2 : Gq u σ G) : Gq (tOr t u) σ G := fun H s Q q => h1 H s _ fun b H1 e1 => by
  cases b with
  | true => exact q true H1 e1
  | false => exact h2 H1 (s.same e1) Q fun b H2 e2 => q b H2 (e1.trans e2)
theorem s_ifQ (s : Sub G H) (h : Gq t σ G) (h1 : ∀ H', Same H H' → x D σ H') (h2 : ∀ H', Same H H' → y D σ H') : tIfS t x y D σ H := h H s _ fun b H1 e => by
  cases b with
  | true => exact h1 H1 e
  | false => exact h2 H1 e
theorem gv_ixN (h : Gls ta σ G xs) (hi : Gv tb σ G (.int i)) (e : atI xs i = some v) : Gv (tOp (rIxL K) ta tb) σ G v := fun H s Q q =>
  h H s _ fun p H1 e1 hp h1 => hi H1 (s.same e1) _ fun H2 e2 => ⟨p, xs, i, v, rfl, rfl, SqL.of (e2 _ _ h1), e, q H2 (e1.trans e2)⟩
theorem ge_names {E : XK} {t0 t1 : TE} {b : Addr} {lo hi : Int} (hb : BagAt G b) (h0 : Gv t0 σ G (.ref b)) (h1 : Gz (fun r => lo ≤ r ∧ r ≤ hi) t1 σ G) (l0 : 0 ≤ lo) (h20 : hi ≤ 20) : Ge (tCall spNames [] E (tCons t0 (tCons t1 tNil))) σ G fun v G' => ∃ (p : Addr) (ns : List Str), v = .ref p ∧ G' p = some (sL ns) ∧ ns.Nodup ∧ (∀ n ∈ ns, Nm n) ∧ lo ≤ ns.length ∧ ns.length ≤ hi := fun H s _ Q q =>
  h0 H s _ fun H1 e1 => h1 H1 (s.same e1) _ fun r H2 e2 hr => ⟨b, r.toNat, G, by show [V.ref b, V.int r] = _; rw [Int.toNat_of_nonneg (by omega)], (s.same e1).same e2, hb, by omega, fun p H' ns e hp hp' nd nn hl => q _ (upd G p (sL ns)) H' (((Stp.refl s).grow ((e1.trans e2).trans e)).tell (s.non ((e1.trans e2).free hp)) ((e1.trans e2).free hp) hp') ⟨p, ns, rfl, upd_same, nd, nn, by omega, by omega⟩⟩
end
section
variable {P : Program} {w : World} {K : PySem.W.Frag} {mg : Str → Option Value} {base : Heap}
/-- a field as the law makes it -/
def FldG (tabs : List Str) : Fld → Prop
  | .mark ws => ws.Nodup ∧ (∀ x ∈ ws, Nm x) ∧ 1 ≤ ws.length ∧ ws.length ≤ 3
  | .link t => t ∈ tabs
  | .tag => True
structure FsG (tabs : List Str) (fs : Flds) : Prop where
  nd : (fs.map (·.1)).Nodup
  nm : ∀ f ∈ fs, Nm f.1
  ok : ∀ f ∈ fs, FldG tabs f.2
  len : fs.length ≤ 6
  c1 : cnt "mark" fs ≤ 2
  c2 : cnt "link" fs ≤ 2
  c3 : cnt "tag" fs ≤ 2
structure FI (L tabs : List Str) (fs : Flds) (i : Nat) : Prop where
  nd : (fs.map (·.1)).Nodup
  at_ : ∀ f ∈ fs, ∃ j, j < i ∧ L[j]? = some f.1
  ok : ∀ f ∈ fs, FldG tabs f.2
  len : fs.length ≤ i
  c1 : cnt "mark" fs ≤ (i + 2) / 3
  c2 : cnt "link" fs ≤ (i + 1) / 3
  c3 : cnt "tag" fs ≤ i / 3
theorem FI.skip {L tabs : List Str} {fs : Flds} {i : Nat} (h : FI L tabs fs i) : FI L tabs fs (i + 1) :=
  ⟨h.nd, fun f hf => let ⟨j, h1, h2⟩ := h.at_ f hf; ⟨j, by omega, h2⟩, h.ok, by have := h.len; omega, by have := h.c1; omega, by have := h.c2; omega, by have := h.c3; omega⟩
theorem cnt_snoc (s : Str) (fs : Flds) (q : Str × Fld) : cnt s (fs ++ [q]) = cnt s fs + (if q.2.sort = s then 1 else 0) := by
  unfold cnt
  rw [List.filter_append, List.length_append, List.filter_cons]
  by_cases h : q.2.sort = s
  · rw [if_pos (decide_eq_true h), if_pos h]; rfl
  · rw [if_neg (by rw [decide_eq_true_iff]; exact h), if_neg h]; rfl
theorem FI.add {L tabs : List Str} {fs : Flds} {i : Nat} {f : Str} {fl : Fld} (h : FI L tabs fs i) (ln : L.Nodup) (e : L[i]? = some f) (g : FldG tabs fl)
    (hs : (i % 3 = 0 ∧ fl.sort = "mark") ∨ (i % 3 = 1 ∧ fl.sort = "link") ∨ (i % 3 = 2 ∧ fl.sort = "tag")) : f ∉ fs.map (·.1) ∧ FI L tabs (fs ++ [(f, fl)]) (i + 1) := by
  have nf : f ∉ fs.map (·.1) := fun z => by
    obtain ⟨q, hq, rfl⟩ := List.mem_map.mp z
    obtain ⟨j, hj, ej⟩ := h.at_ q hq
    obtain ⟨h1, e1⟩ := List.getElem?_eq_some_iff.mp e
    obtain ⟨h2, e2⟩ := List.getElem?_eq_some_iff.mp ej
    have := (List.getElem_inj ln).mp (e1.trans e2.symm)
    omega
  have ne : ∀ a b : Str, a ≠ b → (if a = b then 1 else 0 : Nat) = 0 := fun a b h => if_neg h
  have ms : ("mark" : Str) ≠ "link" ∧ ("mark" : Str) ≠ "tag" ∧ ("link" : Str) ≠ "mark" ∧ ("link" : Str) ≠ "tag" ∧ ("tag" : Str) ≠ "mark" ∧ ("tag" : Str) ≠ "link" := by decide
  have le1 : ∀ s : Str, (if fl.sort = s then 1 else 0 : Nat) ≤ 1 := fun s => by split <;> omega
  have h1 := h.c1
  have h2 := h.c2
  have h3 := h.c3
  refine ⟨nf, ?_, fun q hq => ?_, fun q hq => ?_, ?_, ?_, ?_, ?_⟩
  · rw [List.map_append, List.nodup_append]
    exact ⟨h.nd, by simp, fun a ha b hb e => nf (by rw [List.map_cons, List.map_nil, List.mem_singleton] at hb; have z : a = f := e.trans hb; rw [← z]; exact ha)⟩
  · rcases List.mem_append.mp hq with hq | hq
    · obtain ⟨j, h1, h2⟩ := h.at_ q hq; exact ⟨j, by omega, h2⟩
    · rw [List.mem_singleton.mp hq]; exact ⟨i, by omega, e⟩
  · rcases List.mem_append.mp hq with hq | hq
    · exact h.ok q hq
    · rw [List.mem_singleton.mp hq]; exact g
  · rw [List.length_append, List.length_singleton]; have := h.len; omega
  · rw [cnt_snoc]
    show cnt "mark" fs + (if fl.sort = ("mark" : Str) then 1 else 0) ≤ _
    rcases hs with ⟨hi, es⟩ | ⟨hi, es⟩ | ⟨hi, es⟩
    · have := le1 "mark"; omega
    · rw [es, ne _ _ ms.2.2.1]; omega
    · rw [es, ne _ _ ms.2.2.2.2.1]; omega
  · rw [cnt_snoc]
    show cnt "link" fs + (if fl.sort = ("link" : Str) then 1 else 0) ≤ _
    rcases hs with ⟨hi, es⟩ | ⟨hi, es⟩ | ⟨hi, es⟩
    · rw [es, ne _ _ ms.1]; omega
    · have := le1 "link"; omega
    · rw [es, ne _ _ ms.2.2.2.2.2]; omega
  · rw [cnt_snoc]
    show cnt "tag" fs + (if fl.sort = ("tag" : Str) then 1 else 0) ≤ _
    rcases hs with ⟨hi, es⟩ | ⟨hi, es⟩ | ⟨hi, es⟩
    · rw [es, ne _ _ ms.2.1]; omega
    · rw [es, ne _ _ ms.2.2.2.1]; omega
    · have := le1 "tag"; omega
theorem FI.fin {L tabs : List Str} {fs : Flds} (h : FI L tabs fs 6) (ln : ∀ x ∈ L, Nm x) : FsG tabs fs :=
  ⟨h.nd, fun f hf => let ⟨j, _, e⟩ := h.at_ f hf; ln _ (List.mem_of_getElem? e), h.ok, h.len, h.c1, h.c2, h.c3⟩
def IvF (b tl lb fd : Addr) (n : Int) (L tabs : List Str) (G1 H : Hp) (i : Nat) (σ2 : L2.St) (G5 H5 : Hp) : Prop := ∃ v5 v6 kvs fs, σ2 = [some (.ref b), some (.ref tl), some (.int n), some (.ref lb), some (.ref fd), v5, v6] ∧ Same G1 G5 ∧ Own H G5 fd H5 (.dK kvs) ∧ PrD FldAt G5 kvs fs ∧ FI L tabs fs i
def spFields : Sp := fun vs H Q _ => ∃ (b tl : Addr) (tabs : List Str) (n : Int) (G : Hp), vs = [.ref b, .ref tl, .int n] ∧ Sub G H ∧ BagAt G b ∧ G tl = some (sL tabs) ∧ 1 ≤ tabs.length ∧ tabs.length ≤ 1000 ∧ 0 < n ∧ n < 1073741824 ∧
  ∀ p G' H' fs, Stp G H G' H' → FsAt G' p fs → FsG tabs fs → Q (.ref p) H'
abbrev N_w_fields : List Str := ["_law_bag_here", "_law_tables_here", "_law_rare", "_law_labels", "_law_found", "_law_k", "_law_sort"]
theorem sc_w_fields : FnScope N_w_fields ["_law_bag_here", "_law_tables_here", "_law_rare"] (defScope s_w_fields) := ⟨rfl, rfl, rfl, by decide +kernel, rfl, by decide +kernel, by decide +kernel⟩
-- slots: 0 _law_bag_here, 1 _law_tables_here, 2 _law_rare, 3 _law_labels, 4 _law_found, 5 _law_k, 6 _law_sort
theorem c_w_fields (T : Tx K mg) : Cal P w K mg base 3 "_law_fields" spFields := by
  refine ⟨_, _, ["_law_bag_here", "_law_tables_here", "_law_rare"], fn_body T.f_w_fields sc_w_fields (fun vs H Q E h => by obtain ⟨_, _, _, _, _, rfl, _⟩ := h; rfl) (fun cdv A outer s H vs Q E hr h => ?_), T.g_w_fields, T.f_w_fields.kp, T.f_w_fields.bindsN fun _ _ _ _ _ _ us hl => match us, hl with | [_, _, _], _ => rfl⟩
  obtain ⟨b, tl, tabs, n, G, rfl, sG, hb, ht, t1, t9, n0, nM, k⟩ := h
  have hu := hu_of hr
  refine ⟨_,
    (pss_cons (ps_par (i := 3) (j := 4) (by rfl) sc_w_fields.nd rfl rfl (by decide) rfl rfl (pa_cons (pe_cal (c_w_names T) hr (by decide) rfl (pa_cons (pv 0) (pa_cons pe_int pa_nil))) (pa_cons pe_dnewK pa_nil)) (by rfl))
    (pss_cons (ps_for PassesOwn.never rfl (pi_range1 rfl T.b_range (pa_cons pe_int pa_nil)) (pg_name (i := 5) sc_w_fields.nd rfl (Or.inl rfl))
      (pss_one (ps_if (PW.pt (pw_or (PW.pt (pw_and (pt_cmpR op_lt (pv 5) pe_int (nomark _)) (pw_and1 (pt_cmpR op_gt (pe_cal (c_w_take T) hr (by decide) rfl (pa_cons (pv 0) (pa_cons pe_int pa_nil))) pe_int (nomark _))))) (pw_or1 (PW.pt (pw_and (pt_cmpR op_gt (pv 5) pe_int (nomark _)) (pw_and1 (pt_cmpR op_eq (pe_cal (c_w_take T) hr (by decide) rfl (pa_cons (pv 0) (pa_cons (pv 2) pa_nil))) pe_int (nomark _))))))))
        (pss_cons (ps_set (i := 6) sc_w_fields.nd rfl (Or.inl rfl) (pe_ix (ix_listK rfl) (pe_lst (pa_cons pe_str (pa_cons pe_str (pa_cons pe_str pa_nil)))) (pe_op op_mod (pv 5) pe_int) (fun _ _ => rfl)))
        (pss_one (ps_if (pt_cmpR op_eq (pv 6) pe_str (nomark _))
          (pss_one (ps_dput hu (pv 4) (pe_ix (ix_listK rfl) (pv 3) (pv 5) (fun _ _ => rfl)) (pe_tup (pa_cons pe_str (pa_cons (pe_cal (c_w_names T) hr (by decide) rfl (pa_cons (pv 0) (pa_cons (pe_op op_add pe_int (pe_cal (c_w_take T) hr (by decide) rfl (pa_cons (pv 0) (pa_cons pe_int pa_nil)))) pa_nil))) pa_nil))) rfl))
          (pss_one (ps_if (pt_cmpR op_eq (pv 6) pe_str (nomark _))
            (pss_one (ps_dput hu (pv 4) (pe_ix (ix_listK rfl) (pv 3) (pv 5) (fun _ _ => rfl)) (pe_tup (pa_cons pe_str (pa_cons (pe_ix (ix_listK rfl) (pv 1) (pe_cal (c_w_take T) hr (by decide) rfl (pa_cons (pv 0) (pa_cons (pe_callB (call_len_seqK rfl) (by rfl) T.b_len (by decide +kernel) (pa_cons (pv 1) pa_nil)) pa_nil))) (fun _ _ => rfl)) pa_nil))) rfl))
            (pss_one (ps_dput hu (pv 4) (pe_ix (ix_listK rfl) (pv 3) (pv 5) (fun _ _ => rfl)) (pe_tup (pa_cons pe_str pa_nil)) rfl)))))))
        pss_nil)))
    (pss_one (ps_ret (pv 4))))), ?_⟩
  refine q_parXN sG (ge_names (lo := 6) (hi := 6) hb (gv_var rfl) (gz_v gv_c ⟨by decide, by decide⟩) (by decide) (by decide)) (fun G' e => gd_new) fun v fd G1 H1 s1 hv gf hf hf' => ?_
  obtain ⟨lb, L, rfl, hL, ln, lnm, l6, l6'⟩ := hv
  have e6 : L.length = 6 := by omega
  have ow1 : Own H G1 fd H1 (.dK []) := ⟨hf, gf, hf'⟩
  have hb1 := hb.mono s1.ex
  have ht1 := s1.ex _ _ ht
  refine q_of (s_for (Pre := Fr0) (G0 := G) (H0 := H) (ds := List.range 6) (up := upN 5 fun i => .int (i : Nat)) (Iv := IvF b tl lb fd n L tabs G1 H)
    s1 (gi_range1 (n := 6) gv_c (by omega)) trivial (by
      rintro _ _ _ _ _ e ⟨v5, v6, kvs, fs, h1, h2, h3, h4⟩
      exact ⟨v5, v6, kvs, fs, h1, h2, h3.grow e, h4⟩) (fun G5 H5 s5 => ⟨_, _, [], [], rfl, s5.ex, ow1.step s5, .nil, ⟨List.nodup_nil, fun _ h => (nomatch h), fun _ h => (nomatch h), by simp, by decide, by decide, by decide⟩⟩) (fun G5 H5 s5 i d hd σ2 G6 H6 lp iv => ?_) fun G6 H6 σ2 lp iv => ?_)
  · obtain ⟨v5, v6, kvs, fs, rfl, eG, own, hp, fi⟩ := iv
    obtain ⟨hlt, ed⟩ := List.getElem?_eq_some_iff.mp hd
    rw [List.length_range] at hlt
    rw [List.getElem_range] at ed
    subst ed
    have hb6 := hb1.mono eG
    have ht6 := eG _ _ ht1
    have hL6 := eG _ _ hL
    have eLi : L[i]? = some (L[i]'(by omega)) := List.getElem?_eq_getElem (by omega)
    generalize L[i]'(by omega) = f at eLi
    have tk : ∀ {σ : L2.St} {E : XK} {m : Int} {t : TE}, σ[0]? = some (some (.ref b)) → Gv t σ G6 (.int m) → 0 < m → m < 1073741824 → Gz (fun r => 0 ≤ r ∧ r < m) (tCall spTake [] E (tCons (tVar 0) (tCons t tNil))) σ G6 := fun h h2 h3 h4 => gz_take hb6 (gv_var h) h2 h3 h4
    refine s_ifQ lp.st.sub (gq_or (gq_and (gq_of (gt_test (gv_op (gv_var rfl) gv_c rv_I0))) (gq_z (tk rfl gv_c (by decide) (by decide)) gv_c)) (gq_and (gq_of (gt_test (gv_op (gv_var rfl) gv_c rv_I0))) (gq_zEq (tk rfl (gv_var rfl) n0 nM) gv_c))) (fun H7 e7 => ?_) fun H7 e7 => ⟨G6, lp.grow e7, _, _, kvs, fs, rfl, eG, own.grow e7, hp, fi.skip⟩
    have lp7 := lp.grow e7
    have own7 := own.grow e7
    have put : ∀ {σ : L2.St} {D : Ends} {H8 : Hp} {tv : TE} {s6 : V}, σ = [some (.ref b), some (.ref tl), some (.int n), some (.ref lb), some (.ref fd), some (.int (i : Nat)), some s6] → Same H7 H8 → (∀ σ3 H3, (∃ G3, Lp G H G5 H5 G3 H3 ∧ IvF b tl lb fd n L tabs G1 H (i + 1) σ3 G3 H3) → D.nx σ3 H3) →
        Ge tv σ G6 (fun v G' => ∃ fl, FldAt v fl G' ∧ FldG tabs fl ∧ ((i % 3 = 0 ∧ fl.sort = "mark") ∨ (i % 3 = 1 ∧ fl.sort = "link") ∨ (i % 3 = 2 ∧ fl.sort = "tag"))) → sDPut (tVar 4) (tOp (rIxL K) (tVar 3) (tVar 5)) tv D σ H8 := by
      intro σ D H8 tv s6 eσ e8 fin hv
      subst eσ
      have lp8 := lp7.grow e8
      have own8 := own7.grow e8
      refine s_dput lp8.st.sub hv fun v G9 H9 s9 hv => ?_
      obtain ⟨fl, hfl, gfl, srt⟩ := hv
      have own9 := own8.step s9
      have lp9 := lp8.step s9
      obtain ⟨nf, fi'⟩ := fi.add ln eLi gfl srt
      refine ⟨G9, fd, Sum.inr f, kvs, lp9.st.sub, gv_var rfl, gv_op (gv_var rfl) (gv_var rfl) (rv_ixL (s9.ex _ _ hL6) (atN (by rw [List.getElem?_map, eLi]; rfl))), own9.at_, ?_, fun H10 e10 => fin _ _ ⟨G9, (lp9.grow e10).write (own9.grow e10) (by simp), _, _, putK kvs (Sum.inr f) v, fs ++ [(f, fl)], rfl, eG.trans s9.ex, (own9.grow e10).write, ?_, fi'⟩⟩
      · rw [hp.length, sizeLine_eq]; have := fi.len; omega
      · have := prD_put (hp.mono fld_mono s9.ex) (k := f) (v := v) (x := fl) hfl
        unfold putD at this
        rwa [if_neg nf] at this
    have mod3 : ∀ {σ : L2.St} {j : Int}, σ[5]? = some (some (.int (i : Nat))) → (i : Int) % 3 = j → Gv (tOp (rI (fun _ j => 0 < j) fun i j => .int (i % j)) (tVar 5) (tC (.int 3))) σ G6 (.int j) := fun h e => gv_eq (by rw [e]) (gv_op (gv_var h) gv_c (rv_I (by decide)))
    have sorts : ∀ {σ : L2.St} {j : Nat} {s : Str}, σ[5]? = some (some (.int (i : Nat))) → (i : Int) % 3 = (j : Nat) → [V.str "mark", V.str "link", V.str "tag"][j]? = some (.str s) → Gv (tOp (rIxL K) (tLst (tCons (tC (.str "mark")) (tCons (tC (.str "link")) (tCons (tC (.str "tag")) tNil)))) (tOp (rI (fun _ j => 0 < j) fun i j => .int (i % j)) (tVar 5) (tC (.int 3)))) σ G6 (.str s) := fun h e hs => gv_ixN (gl_lst (ga_cons gv_c (ga_cons gv_c (ga_cons gv_c ga_nil))) (few rfl)) (mod3 h e) (atN hs)
    have m3 : i % 3 = 0 ∨ i % 3 = 1 ∨ i % 3 = 2 := by omega
    rcases m3 with m | m | m
    · refine q_set lp7.st.sub (sorts (j := 0) rfl (by omega) rfl) fun H8 e8 => ?_
      refine s_yes (lp7.grow e8).st.sub (gt_test (gv_op (gv_var rfl) gv_c (rv_eq rfl))) fun H9 e9 => ?_
      refine put rfl (e8.trans e9) (fun _ _ h => h) (ge_tup (gxa_consV gv_c (gxa_cons (ge_names (lo := 1) (hi := 3) hb6 (gv_var rfl) (gz_op0 (gz_v (A := fun x => x = 1) gv_c rfl) (tk rfl gv_c (by decide) (by decide)) fun x y hx hy => by omega) (by decide) (by decide)) fun v G' e hv => gxa_nil ⟨few rfl, fun p gp => ?_⟩)))
      obtain ⟨q, ns, rfl, hq, nd, nn, l1, l3⟩ := hv
      exact ⟨.mark ns, ⟨p, q, rfl, upd_same, Same.put gp _ _ hq⟩, ⟨nd, nn, by omega, by omega⟩, .inl ⟨m, rfl⟩⟩
    · refine q_set lp7.st.sub (sorts (j := 1) rfl (by omega) rfl) fun H8 e8 => ?_
      refine s_no (lp7.grow e8).st.sub (gt_test (gv_eq (by decide) (gv_op (gv_var rfl) gv_c (rv_eq rfl)))) fun H9 e9 => ?_
      refine s_yes (lp7.grow (e8.trans e9)).st.sub (gt_test (gv_op (gv_var rfl) gv_c (rv_eq rfl))) fun H10 e10 => ?_
      refine put rfl ((e8.trans e9).trans e10) (fun _ _ h => h) (ge_tup (gxa_consV gv_c (gxa_cons (gw_ixL (gv_var rfl) ht6 ((tk rfl (gv_lenL (gv_var rfl) ht6 (by rw [List.length_map])) (by omega) (by omega)).imp fun r hr => by rw [List.length_map]; exact hr)).gx fun v G' e hv => gxa_nil ⟨few rfl, fun p gp => ?_⟩)))
      obtain ⟨hv, rfl⟩ := hv
      obtain ⟨t, htm, rfl⟩ := List.mem_map.mp hv
      exact ⟨.link t, ⟨p, rfl, upd_same⟩, htm, .inr (.inl ⟨m, rfl⟩)⟩
    · refine q_set lp7.st.sub (sorts (j := 2) rfl (by omega) rfl) fun H8 e8 => ?_
      refine s_no (lp7.grow e8).st.sub (gt_test (gv_eq (by decide) (gv_op (gv_var rfl) gv_c (rv_eq rfl)))) fun H9 e9 => ?_
      refine s_no (lp7.grow (e8.trans e9)).st.sub (gt_test (gv_eq (by decide) (gv_op (gv_var rfl) gv_c (rv_eq rfl)))) fun H10 e10 => ?_
      exact put rfl ((e8.trans e9).trans e10) (fun _ _ h => h) (ge_tup (gxa_consV gv_c (gxa_nil ⟨few rfl, fun p gp => ⟨.tag, ⟨p, rfl, upd_same⟩, trivial, .inr (.inr ⟨m, rfl⟩)⟩⟩)))
  · obtain ⟨v5, v6, kvs, fs, rfl, eG, own, hp, fi⟩ := iv
    dsimp only
    refine s_ret lp.st.sub (gv_var rfl) fun H7 e7 => ?_
    have own7 := own.grow e7
    exact k fd (upd G6 fd (.dK kvs)) H7 fs ((lp.st.grow e7).tell own7.g own7.h0 own7.at_) ⟨kvs, upd_same, hp.mono fld_mono (Same.put own7.g)⟩ (fi.fin lnm)
end
end K25

/-! F24 -/
namespace K25
open PySem PySem.Spec PyProof.Rows L2
section
variable {P : Program} {w : World} {K : PySem.W.Frag} {mg : Str → Option Value} {base : Heap}
/-! ### fields alike, in their order -/
def spLike : Sp := fun vs H Q _ => ∃ (d : Addr) (so : Str) (fs : Flds) (G : Hp), vs = [.ref d, .str so] ∧ Sub G H ∧ FsAt G d fs ∧ (fs.map (·.1)).Nodup ∧ fs.length ≤ 6 ∧ ∀ p H', Same H H' → H p = none → H' p = some (sL (fLike (srtD fs) so)) → Q (.ref p) H'
abbrev N_w_like : List Str := ["_law_fields_here", "_law_sort", "_law_name"]
theorem sc_w_like : FnScope N_w_like ["_law_fields_here", "_law_sort"] (defScope s_w_like) := ⟨rfl, rfl, rfl, by decide +kernel, rfl, by decide +kernel, by decide +kernel⟩
-- slots: 0 _law_fields_here*, 1 _law_sort*, 2 _law_name
theorem c_w_like (T : Tx K mg) : Cal P w K mg base 1 "_law_like" spLike := by
  refine ⟨_, _, ["_law_fields_here", "_law_sort"], fn_body T.f_w_like sc_w_like (fun vs H Q E h => by obtain ⟨_, _, _, _, rfl, _⟩ := h; rfl) (fun cdv A outer s H vs Q E hr h => ?_), T.g_w_like, T.f_w_like.kp, T.f_w_like.bindsN fun _ _ _ _ _ _ us hl => match us, hl with | [_, _], _ => rfl⟩
  obtain ⟨d, so, fs, G, rfl, sG, ⟨kvs, hd, hp⟩, nd, l6, k⟩ := h
  have hu := hu_of hr
  refine ⟨_,
    (pss_one (ps_ret (pe_lc rfl sc_w_like.nd (pi_listK rfl (pe_callB (cr_sortedD rfl) (by rfl) T.b_sorted (by decide +kernel) (pa_cons (pv 0) pa_nil))) (blkOk_by (own := [("_law_name", 2)]) (N := N_w_like) (sc := defScope s_w_like) (by decide +kernel)) (fun _ _ _ _ _ => (pg_name (i := 2) sc_w_like.nd rfl (Or.inl rfl))) (fun _ _ _ _ _ => (pts_one (pt_cmpR op_eq (pe_ix (ix_tupK rfl) (pe_dget hu (pv 0) (pv 2) (fun _ _ => rfl)) pe_int (fun _ _ => rfl)) (pv 1) (nomark _)))) (fun _ _ _ _ _ => (pv 2))))), ?_⟩
  refine s_retN sG (mk := sL (fLike (srtD fs) so)) (gn_eq ?_ (gl_lc (pf := fun q : Str × Fld => decide (q.2.sort = so)) (ds := srtD fs) (up := upN 2 fun q => .str q.1) (fun q => V.str q.1) ((gi_listN (ds := sortS (fs.map (·.1))) (emb := V.str) (gl_sortedD (ks := fs.map (·.1)) (gv_var rfl) hd (hp.keys) (by rw [List.length_map]; omega))).from_ (fun q => q.1) (by rw [← srtD_keys]) fun _ _ _ => rfl) (by rw [srtD_len]; omega) (fun _ _ => rfl) (fun q hq => ?_) fun q hq _ => gv_var rfl)) fun p H1 e1 hp1 h1 => k p H1 e1 hp1 h1
  · unfold fLike sL
    rw [List.map_map]
    rfl
  · obtain ⟨v, hv, hf⟩ := (hp.get q.1).1 q.2 (valD_of nd (srtD_mem.mp hq))
    obtain ⟨a, r, rfl, ha⟩ := hf.any
    exact gt_test (gv_eq (by simp) (gv_op (gv_op (gv_dget (k := Sum.inr q.1) (gv_var rfl) (gv_var rfl) hd hv) gv_c (rv_ixT ha (at0 _ _))) (gv_var rfl) (rv_eq rfl)))
theorem gn_like {σ : L2.St} {G : Hp} {E : XK} {t0 t1 : TE} {d : Addr} {so : Str} {fs : Flds} (h0 : Gv t0 σ G (.ref d)) (h1 : Gv t1 σ G (.str so)) (hd : FsAt G d fs) (nd : (fs.map (·.1)).Nodup) (l6 : fs.length ≤ 6) : Gls (tCall spLike [] E (tCons t0 (tCons t1 tNil))) σ G ((fLike (srtD fs) so).map V.str) :=
  gn_call (ga_cons h0 (ga_cons h1 ga_nil)) fun H sb Q E q => ⟨d, so, fs, G, rfl, sb, hd, nd, l6, q⟩
/-! ### tests -/
def TstG (fs : Flds) (t : Tst) : Prop := TstOk fs t
end
end K25

/-! F25 -/
namespace K25
open PySem PySem.Spec PyProof.Rows L2
section
variable {K : PySem.W.Frag} {σ : L2.St} {G : Hp} {A : Int → Prop} {te td : TE} {a : Addr} {kvs : List (Key × V)}
/-- int(d != {}) -/
theorem gz_neE (h : Gv td σ G (.ref a)) (ha : G a = some (.dK kvs)) : Gz (fun n => (n = 0 ∨ n = 1) ∧ (n = 1 → kvs ≠ [])) (tCB rInt1 (tCons (tOp (rNeT K) td tDNewK) tNil)) σ G := fun H s Q q =>
  h H s _ fun H1 e1 => fun p hp => by
    have e2 := e1.trans (Same.put (o := .dK []) hp)
    refine ⟨0, a, p, kvs, [], by omega, rfl, rfl, (s.same e2).rd ha, .inl upd_same, ?_⟩
    by_cases z : kvs.length = 0
    · refine .inl ⟨z, fun q hq => ?_, .inr ⟨_, rfl, q _ _ e2 ⟨.inl rfl, fun z => by simp at z⟩⟩⟩
      rw [List.length_eq_zero_iff.mp z] at hq
      cases hq
    · exact .inr ⟨z, .inr ⟨_, rfl, q _ _ e2 ⟨.inr rfl, fun _ y => z (by rw [y]; rfl)⟩⟩⟩
end
section
variable {δ : Type} {σ : L2.St} {G : Hp} {ds : List δ} {up : δ → L2.St → L2.St} {wi : TI} {g : TG} {tt : TT} {te : TE} {vs : List Nat}
/-- [f d for d in ds if ..], nothing known of the test -/
theorem gm_lcQ (f : δ → V) (hi : GI Fr0 wi g σ G ds up) (hz : ds.length ≤ 100000) (hw : ∀ d ∈ ds, wipe (up d (wipe σ vs)) vs = wipe σ vs)
    (ht : ∀ d ∈ ds, ∀ G', Same G G' → Gq tt (up d (wipe σ vs)) G') (he : ∀ d ∈ ds, ∀ G', Same G G' → Gv te (up d (wipe σ vs)) G' (f d)) :
    Gm Fr0 (tLc wi g tt te vs) σ G fun o _ => ∃ ys : List δ, ys.Sublist ds ∧ o = .lst (ys.map f) := fun H s c Q q =>
  hi H s c _ fun J G1 H1 st1 wk D hD => by
    refine ⟨fun i m H2 => m = ds.length - i ∧ i ≤ ds.length ∧ ∃ ys : List δ, Stp G1 H1 G1 H2 ∧ H2 D = some (.lst (ys.map f)) ∧ ys.Sublist (ds.take i),
      ⟨ds.length, by simp, Nat.zero_le _, [], (Stp.refl st1.sub).hide hD, upd_same, by simp⟩, ?_⟩
    rintro i m H2 ⟨rfl, hil, ys, st, hD2, al⟩
    have gD : G1 D = none := st1.sub.non hD
    by_cases hlt : i < ds.length
    · have hd : ds[i]? = some ds[i] := List.getElem?_eq_getElem hlt
      generalize ds[i] = d at hd
      have dm : d ∈ ds := List.mem_of_getElem? hd
      obtain ⟨go, turn⟩ := wk.go H2 st.sub (Same.frz st.keep) i d hd
      refine .inr ⟨go, fun H' => ∃ m', m' < ds.length - i ∧ (m' = ds.length - (i + 1) ∧ i + 1 ≤ ds.length ∧ ∃ ys : List δ, Stp G1 H1 G1 H' ∧ H' D = some (.lst (ys.map f)) ∧ ys.Sublist (ds.take (i + 1))), fun H' z => z, fun x H3 y => ?_⟩
      obtain ⟨e3, asg⟩ := turn x H3 y
      refine asg (wipe σ vs) _ fun H4 e4 => ⟨hw d dm, ?_⟩
      have st4 : Stp G1 H1 G1 H4 := st.grow (e3.trans e4)
      have hD4 : H4 D = some (.lst (ys.map f)) := e4 D _ (e3 D _ hD2)
      refine ht d dm G1 st1.ex H4 st4.sub _ fun b H5 e5 => ?_
      have st5 := st4.grow e5
      have hD5 := e5 D _ hD4
      have lenx : (ys.map f).length ≤ i := by
        rw [List.length_map]
        exact Nat.le_trans al.length_le (by rw [List.length_take]; omega)
      cases b with
      | true =>
        simp only [if_true]
        refine he d dm G1 st1.ex H5 st5.sub _ fun H6 e6 => ⟨ys.map f, e6 D _ hD5, Nat.lt_of_le_of_lt lenx (Nat.lt_of_lt_of_le (Nat.lt_of_lt_of_le hlt hz) (by decide)), ds.length - (i + 1), by omega, rfl, hlt, ys ++ [d], (st5.grow e6).write gD hD, ?_, ?_⟩
        · rw [upd_same, List.map_append]; rfl
        · rw [take_snoc hd]
          exact al.append (List.Sublist.refl _)
      | false =>
        simp only [Bool.false_eq_true, if_false]
        refine ⟨ds.length - (i + 1), by omega, rfl, hlt, ys, st5, hD5, ?_⟩
        rw [take_snoc hd]
        exact al.trans (List.sublist_append_left _ _)
    · have ei : i = ds.length := by omega
      subst ei
      rw [List.take_length] at al
      exact .inl ⟨wk.stop H2 st.sub (Same.frz st.keep), q D _ G1 H2 (st1.trans st) (st1.keep.free hD) gD hD2 ⟨ys, al, rfl⟩⟩
end
section
variable {P : Program} {w : World} {K : PySem.W.Frag} {mg : Str → Option Value} {base : Heap}
def spTests : Sp := fun vs H Q _ => ∃ (b d : Addr) (top : Int) (tabs : List Str) (fs : Flds) (G : Hp), vs = [.ref b, .ref d, .int top] ∧ Sub G H ∧ BagAt G b ∧ FsAt G d fs ∧ FsG tabs fs ∧ 0 ≤ top ∧ top ≤ 2 ∧
  ∀ p G' H' ts, Stp G H G' H' → LAt TstV G' p ts → TsOk fs ts → Q (.ref p) H'
abbrev N_w_tests : List Str := ["_law_bag_here", "_law_fields_here", "_law_top", "_law_found", "_law_k", "_law_name", "_law_test", "_law_words", "_law_some", "_law_word", "_law_turn"]
theorem sc_w_tests : FnScope N_w_tests ["_law_bag_here", "_law_fields_here", "_law_top"] (defScope s_w_tests) := ⟨rfl, rfl, rfl, by decide +kernel, rfl, by decide +kernel, by decide +kernel⟩
-- slots: 0 _law_bag_here*, 1 _law_fields_here, 2 _law_top, 3 _law_found, 4 _law_k, 5 _law_name, 6 _law_test, 7 _law_words, 8 _law_some, 9 _law_word, 10 _law_turn
theorem c_w_tests (T : Tx K mg) : Cal P w K mg base 2 "_law_tests" spTests := by
  refine ⟨_, _, ["_law_bag_here", "_law_fields_here", "_law_top"], fn_body T.f_w_tests sc_w_tests (fun vs H Q E h => by obtain ⟨_, _, _, _, _, _, rfl, _⟩ := h; rfl) (fun cdv A outer s H vs Q E hr h => ?_), T.g_w_tests, T.f_w_tests.kp, T.f_w_tests.bindsN fun _ _ _ _ _ _ us hl => match us, hl with | [_, _, _], _ => rfl⟩
  obtain ⟨b, d, top, tabs, fs, G, rfl, sG, hb, ⟨kvs, hd, hp⟩, og, t0, t2, k⟩ := h
  have hu := hu_of hr
  refine ⟨_,
    (pss_cons (ps_set (i := 3) sc_w_tests.nd rfl (Or.inl rfl) (pe_lst pa_nil))
    (pss_cons (ps_for PassesOwn.never rfl (pi_range1 rfl T.b_range (pa_cons (pe_op op_mul (pe_cal (c_w_take T) hr (by decide) rfl (pa_cons (pv 0) (pa_cons (pe_op op_add (pv 2) pe_int) pa_nil))) (pe_callTy call_int1 (by rfl) T.b_int (by decide +kernel) (pa_cons (pe_cmpR (op_neTK rfl hr.units) (pv 1) pe_dnewK (nomark _)) pa_nil))) pa_nil)) (pg_name (i := 4) sc_w_tests.nd rfl (Or.inl rfl))
      (pss_cons (ps_set (i := 5) sc_w_tests.nd rfl (Or.inl rfl) (pe_ix (ix_listK rfl) (pe_callB (cr_sortedD rfl) (by rfl) T.b_sorted (by decide +kernel) (pa_cons (pv 1) pa_nil)) (pe_cal (c_w_take T) hr (by decide) rfl (pa_cons (pv 0) (pa_cons (pe_callB call_lenR (by rfl) T.b_len (by decide +kernel) (pa_cons (pv 1) pa_nil)) pa_nil))) (fun _ _ => rfl)))
      (pss_cons (ps_set (i := 6) sc_w_tests.nd rfl (Or.inl rfl) (pe_tup (pa_cons pe_str (pa_cons (pv 5) pa_nil))))
      (pss_cons (ps_if (pt_cmpR op_eq (pe_ix (ix_tupK rfl) (pe_dget hu (pv 1) (pv 5) (fun _ _ => rfl)) pe_int (fun _ _ => rfl)) pe_str (nomark _))
        (pss_cons (ps_set (i := 7) sc_w_tests.nd rfl (Or.inl rfl) (pe_ix (ix_tupK rfl) (pe_dget hu (pv 1) (pv 5) (fun _ _ => rfl)) pe_int (fun _ _ => rfl)))
        (pss_cons (ps_setLc (i := 8) rfl sc_w_tests.nd rfl rfl (sw_true rfl rfl rfl (by decide +kernel)) (pi_listK rfl (pv 7)) (blkOk_by (own := [("_law_word", 9)]) (N := N_w_tests) (sc := defScope s_w_tests) (by decide +kernel)) (fun _ _ _ _ _ => (pg_name (i := 9) sc_w_tests.nd rfl (Or.inl rfl))) (fun _ _ _ _ _ => (pts_one (pt_cmpR op_eq (pe_cal (c_w_take T) hr (by decide) rfl (pa_cons (pv 0) (pa_cons pe_int pa_nil))) pe_int (nomark _)))) (fun _ _ _ _ _ => (pv 9)))
        (pss_one (ps_set (i := 6) sc_w_tests.nd rfl (Or.inl rfl) (pe_tup (pa_cons pe_str (pa_cons (pv 5) (pa_cons (pe_orT (pv 8) (pe_one (pe_slice (sl_listK rfl) (pv 7) po_none (po_some pe_int)))) pa_nil))))))))
        pss_nil)
      (pss_cons (ps_for PassesOwn.never rfl (pi_range1 rfl T.b_range (pa_cons (pe_ix (ix_listK rfl) (pe_lst (pa_cons pe_int (pa_cons pe_int (pa_cons pe_int (pa_cons pe_int pa_nil))))) (pe_cal (c_w_take T) hr (by decide) rfl (pa_cons (pv 0) (pa_cons pe_int pa_nil))) (fun _ _ => rfl)) pa_nil)) (pg_name (i := 10) sc_w_tests.nd rfl (Or.inl rfl))
        (pss_one (ps_set (i := 6) sc_w_tests.nd rfl (Or.inl rfl) (pe_tup (pa_cons pe_str (pa_cons (pv 6) pa_nil))))))
      (pss_one (ps_expr (pe_bmK rfl PySem.F.plainAttrs_list PySem.F.slot_list_append PySem.F.type_list_append mt_append (pv 3) (pa_cons (pv 6) pa_nil)))))))))
    (pss_one (ps_ret (pv 3))))), ?_⟩
  refine q_setN sG (mk := .lst []) (gl_lst ga_nil (by decide)) fun fd H1 e1 hf hf' => ?_
  have st1 : Stp G H G H1 := (Stp.refl sG).grow e1
  have ow1 : Own H G fd H1 (.lst []) := .made (Stp.refl sG) e1 hf hf'
  have lk : kvs.length = fs.length := hp.length
  have l6 := og.len
  refine q_of (for_of (giz_range (Az := fun r => 0 ≤ r ∧ r ≤ 2 ∧ (0 < r → fs ≠ [])) (gz_op (gz_take hb (gv_var rfl) (gv_op (gv_var rfl) gv_c rv_I0) (by omega) (by omega)) (gz_neE (gv_var rfl) hd) (fun x y _ hy => .inr (by omega)) fun x y hx hy => ?_) fun n hn => by omega) st1.sub fun ds G2 H2 wi' pd st2 gi => ?_)
  · obtain ⟨hy1, hy2⟩ := hy
    rcases hy1 with rfl | rfl
    · simp
    · refine ⟨by omega, by omega, fun _ z => hy2 rfl ?_⟩
      rw [z] at lk
      exact List.length_eq_zero_iff.mp lk
  · obtain ⟨n, ⟨n0, n2, nz⟩, rfl⟩ := pd
    have st2' := st1.trans st2
    have ow2 := ow1.step st2
    refine s_for (Pre := Same H2) (G0 := G) (H0 := H) (up := upN 4 fun i => .int (i : Nat)) (Iv := fun (i : Nat) σ2 G5 H5 => ∃ v4 v5 v6 v7 v8 v9 v10 vs ts, σ2 = [some (.ref b), some (.ref d), some (.int top), some (.ref fd), v4, v5, v6, v7, v8, v9, v10] ∧ Same G G5 ∧ Own H G5 fd H5 (.lst vs) ∧ All2 (fun v x => TstV v x G5) vs ts ∧ ts.length = i ∧ ∀ t ∈ ts, TstOk fs t ∧ t.dep ≤ 2)
      st2' gi (Same.refl _) (by
        rintro _ _ _ _ _ e ⟨v4, v5, v6, v7, v8, v9, v10, vs, ts, h1, h2, h3, h4⟩
        exact ⟨v4, v5, v6, v7, v8, v9, v10, vs, ts, h1, h2, h3.grow e, h4⟩) (fun G5 H5 s5 => ⟨_, _, _, _, _, _, _, [], [], rfl, st2'.ex.trans s5.ex, ow2.step s5, .nil, rfl, fun _ h => (nomatch h)⟩) (fun G5 H5 s5 i dd hdd σ2 G6 H6 lp iv => ?_) fun G6 H6 σ2 lp iv => ?_
    · obtain ⟨v4, v5, v6, v7, v8, v9, v10, vs, ts, rfl, eG, own, al, hl, hts⟩ := iv
      have hb6 := hb.mono eG
      have hd6 := eG _ _ hd
      have hp6 := hp.mono fld_mono eG
      have ilt : i < n.toNat := by
        have := (List.getElem?_eq_some_iff.mp hdd).1
        simpa using this
      have fne : fs ≠ [] := nz (by omega)
      have flen : 0 < fs.length := List.length_pos_iff.mpr fne
      refine q_setX lp.st.sub ((gw_ixN (gl_sortedD (ks := fs.map (·.1)) (gv_var rfl) hd6 hp6.keys (by rw [List.length_map]; omega)) ((gz_take hb6 (gv_var rfl) (gv_lenD (n := fs.length) (gv_var rfl) hd6 (by rw [hp6.length])) (by omega) (by omega)).imp fun r hr => by rw [List.length_map, sortS_len, List.length_map]; exact hr)).gx) fun v G7 H7 s7 hv => ?_
      obtain ⟨hv, eg⟩ := hv
      subst eg
      obtain ⟨f, hf2, rfl⟩ := List.mem_map.mp hv
      obtain ⟨fl, efl⟩ := valD_in (sortS_mem.mp hf2)
      obtain ⟨fv, hfv, hfl⟩ := (hp6.get f).1 fl efl
      have lp7 := lp.step s7
      have own7 := own.step s7
      refine q_setX lp7.st.sub (Φ := fun v G' => TstAt (.non f) v G') (ge_tup (gxa_consV gv_c (gxa_consV (gv_var rfl) (gxa_nil ⟨few rfl, fun p gp => ⟨p, rfl, upd_same⟩⟩)))) fun tv G8 H8 s8 htv => ?_
      have lp8 := lp7.step s8
      have own8 := own7.step s8
      have al8 := al.imp fun _ _ _ _ h => tst_mono _ _ _ _ s8.ex h
      have hb8 := hb6.mono s8.ex
      have hd8 := s8.ex _ _ hd6
      have hfl8 := fld_mono _ _ _ _ s8.ex hfl
      obtain ⟨fa, fr, rfl, hfa⟩ := hfl8.any
      refine q_tail (fun σ' H' => ∃ v7 v8 v9 v10 tst tv G', σ' = [some (.ref b), some (.ref d), some (.int top), some (.ref fd), some (.int (dd : Nat)), some (.str f), some tv, v7, v8, v9, v10] ∧ Lp G H G5 H5 G' H' ∧ Same G8 G' ∧ Own H G' fd H' (.lst vs) ∧ TstAt tst tv G' ∧ TstOk fs tst ∧ tst.dep = 0) (fun tail => ?_) ?_
      · refine s_if lp8.st.sub (gt_test (gv_op (gv_op (gv_dget (k := Sum.inr f) (gv_var rfl) (gv_var rfl) hd8 hfv) gv_c (rv_ixT hfa (at0 _ _))) gv_c (rv_eq rfl))) (fun hm H9 e9 => ?_) fun hm H9 e9 => ?_
        · have hm : V.str fl.sort = V.str "mark" := of_decide_eq_true hm
          cases fl with
          | link u => exact absurd (V.str.inj hm) (show ¬ (("link" : Str) = "mark") by decide)
          | tag => exact absurd (V.str.inj hm) (show ¬ (("tag" : Str) = "mark") by decide)
          | mark ws =>
            obtain ⟨a', l, ea, ha', hl'⟩ := hfl8
            cases ea
            have okw := og.ok _ (valD_mem efl)
            have lw : 1 ≤ ws.length ∧ ws.length ≤ 3 := ⟨okw.2.2.1, okw.2.2.2⟩
            obtain ⟨w0, ws', rfl⟩ : ∃ w0 ws', ws = w0 :: ws' := by
              cases ws with
              | nil => simp at lw
              | cons w ws => exact ⟨_, _, rfl⟩
            have lp9 := lp8.grow e9
            have own9 := own8.grow e9
            refine q_set lp9.st.sub (gv_op (gv_dget (k := Sum.inr f) (gv_var rfl) (gv_var rfl) hd8 hfv) gv_c (rv_ixT ha' (atN (j := 1) rfl))) fun H10 e10 => ?_
            refine q_setX (lp9.grow e10).st.sub (Φ := fun v G' => ∃ (q : Addr) (ys : List Str), v = .ref q ∧ G' q = some (sL ys) ∧ ys.Sublist (w0 :: ws')) (ge_gm (gm_lcQ V.str (gi_list (emb := V.str) (gv_var rfl) hl') (by omega) (fun _ _ => rfl) (fun x hx G' e => gq_zEq (gz_take (hb8.mono e) (gv_var rfl) gv_c (by decide) (by decide)) gv_c) fun x hx G' e => gv_var rfl) fun p o G' e gp ho => ?_) fun sv G11 H11 s11 hsv => ?_
            · obtain ⟨ys, hs, rfl⟩ := ho
              exact ⟨p, ys, rfl, upd_same, hs⟩
            obtain ⟨q, ys, rfl, hq, hsub⟩ := hsv
            have lp11 := (lp9.grow e10).step s11
            have own11 := (own9.grow e10).step s11
            have hl11 := s11.ex _ _ hl'
            refine s_setX lp11.st.sub (Φ := fun v G' => ∃ zs, TstAt (.is f zs) v G' ∧ zs ≠ [] ∧ zs.length ≤ 4 ∧ ∀ x ∈ zs, x ∈ w0 :: ws') (ge_tup (gxa_consV gv_c (gxa_consV (gv_var rfl) (gxa_cons (Ψ := fun v G' => ∃ (q : Addr) (zs : List Str), v = .ref q ∧ G' q = some (sL zs) ∧ zs ≠ [] ∧ zs.length ≤ 4 ∧ ∀ x ∈ zs, x ∈ w0 :: ws') (fun H s _ Q qq => ⟨.ref q, rfl, !(ys.map V.str).isEmpty, .inl ⟨_, SqL.of (s.lst hq), rfl⟩, ?_⟩) fun v G' e hv => gxa_nil ⟨few rfl, fun p gp => ?_⟩)))) fun v G12 H12 s12 hv => ?_
            · cases ys with
              | nil =>
                have cut1 : cutV ((w0 :: ws').map V.str) none (some 1) = [w0].map V.str := by
                  unfold cutV
                  have e2 : HT.sIx ((w0 :: ws').map V.str).length ((w0 :: ws').map V.str).length (some 1) = 1 := by
                    rw [List.length_map, List.length_cons]
                    unfold HT.sIx
                    simp
                    try omega
                  rw [e2, show HT.sIx ((w0 :: ws').map V.str).length 0 none = 0 from rfl]
                  rfl
                refine gl_slL (gv_var rfl) hl11 to_none to_int cut1 H s _ fun p H1 e1 hp h1 => qq (.ref p) (upd G11 p (sL [w0])) H1 (((Stp.refl s).grow e1).tell (s.non hp) hp h1) ⟨p, [w0], rfl, upd_same, by simp, by simp, fun x hx => by rw [List.mem_singleton.mp hx]; exact List.mem_cons_self⟩
              | cons y ys => exact qq (.ref q) G11 H (Stp.refl s) ⟨q, y :: ys, rfl, hq, by simp, by have := hsub.length_le; omega, fun x hx => hsub.subset hx⟩
            · obtain ⟨q', zs, rfl, hq', h1, h2, h3⟩ := hv
              exact ⟨zs, ⟨p, q', rfl, upd_same, Same.put gp _ _ hq'⟩, h1, h2, h3⟩
            · obtain ⟨zs, hz, h1, h2, h3⟩ := hv
              exact tail _ _ ⟨_, _, _, _, .is f zs, v, G12, rfl, lp11.step s12, s11.ex.trans s12.ex, own11.step s12, hz, ⟨_, efl, h1, h2, h3⟩, rfl⟩
        · refine tail _ _ ⟨_, _, _, _, .non f, tv, G8, rfl, lp8.grow e9, Same.refl _, own8.grow e9, htv, ⟨fl, efl, ?_⟩, rfl⟩
          have hm : ¬ V.str fl.sort = V.str "mark" := of_decide_eq_false hm
          cases fl with
          | mark ws => exact absurd rfl hm
          | link u => exact .inl rfl
          | tag => exact .inr rfl
      · rintro σ' H9 ⟨v7', v8', v9', v10', tst, tv, G9, rfl, lp9, eG9, own9, htv, okt, dt⟩
        have hb9 := hb8.mono eG9
        have al9 := al8.imp fun _ _ _ _ h => tst_mono _ _ _ _ eG9 h
        refine q_of (for_of (giz_range (Az := fun r => 0 ≤ r ∧ r ≤ 2) (gz_w ((gw_ixN (gl_lst (ga_cons gv_c (ga_cons gv_c (ga_cons gv_c (ga_cons gv_c ga_nil)))) (few rfl)) (gz_take hb9 (gv_var rfl) gv_c (by decide) (by decide))).imp fun v hv => by
          simp only [List.mem_cons, List.not_mem_nil, or_false] at hv
          rcases hv with rfl | rfl | rfl | rfl <;> exact ⟨_, rfl, by decide, by decide⟩)) fun n hn => by omega) lp9.st.sub fun ds G10 H10 wi' pd s10 gi => ?_)
        obtain ⟨m, ⟨m0, m2⟩, rfl⟩ := pd
        have lp10 := lp9.step s10
        refine s_for (Pre := Same H10) (G0 := G) (H0 := H) (up := upN 10 fun i => .int (i : Nat)) (Iv := fun (j : Nat) σ2 G' H' => ∃ v7 v8 v9 v10 tst tv, σ2 = [some (.ref b), some (.ref d), some (.int top), some (.ref fd), some (.int (dd : Nat)), some (.str f), some tv, v7, v8, v9, v10] ∧ Same G10 G' ∧ Own H G' fd H' (.lst vs) ∧ TstAt tst tv G' ∧ TstOk fs tst ∧ tst.dep = j)
          lp10.st gi (Same.refl _) (by
            rintro _ _ _ _ _ e ⟨v7, v8, v9, v10, tst, tv, h1, h2, h3, h4⟩
            exact ⟨v7, v8, v9, v10, tst, tv, h1, h2, h3.grow e, h4⟩) (fun G' H' s' => ⟨_, _, _, _, tst, tv, rfl, s'.ex, (own9.step s10).step s', tst_mono _ _ _ _ (s10.ex.trans s'.ex) htv, okt, dt⟩) (fun G' H' s' j jj hjj σ2 G11 H11 lpj iv => ?_) fun G11 H11 σ2 lpj iv => ?_
        · obtain ⟨v7'', v8'', v9'', v10'', tst, tv, rfl, e11, own11, htv, okt, dt⟩ := iv
          refine s_setX lpj.st.sub (Φ := fun v G' => TstAt (.not tst) v G') (ge_tup (gxa_consV gv_c (gxa_consV (gv_var rfl) (gxa_nil ⟨few rfl, fun p gp => ⟨p, tv, rfl, upd_same, tst_mono _ _ _ _ (Same.put gp) htv⟩⟩)))) fun v G12 H12 s12 hv => ⟨G12, lpj.step s12, _, _, _, _, .not tst, v, rfl, e11.trans s12.ex, own11.step s12, hv, okt, by show tst.dep + 1 = j + 1; rw [dt]⟩
        · obtain ⟨v7'', v8'', v9'', v10'', tst, tv, rfl, e11, own11, htv, okt, dt⟩ := iv
          rw [List.length_range] at dt
          have lvs : vs.length = ts.length := al.length
          have lpo : Lp G H G5 H5 G11 H11 := ⟨lpj.st, lp10.ex.trans lpj.ex, fun a ob u h => lpj.fz a ob u (lp10.fz a ob u h)⟩
          dsimp only
          refine s_append lpj.st.sub (gv_var rfl) (gv_var rfl) own11.at_ (by rw [sizeLine_eq]; omega) fun H12 e12 => ⟨G11, (lpo.grow e12).write (own11.grow e12) (by simp), _, _, _, _, _, _, _, vs ++ [tv], ts ++ [tst], rfl, eG.trans (s8.ex.trans (eG9.trans (s10.ex.trans e11))), (own11.grow e12).write, (al9.imp fun _ _ _ _ h => tst_mono _ _ _ _ (s10.ex.trans e11) h).snoc htv, by rw [List.length_append, hl]; rfl, fun t ht => ?_⟩
          rcases List.mem_append.mp ht with ht | ht
          · exact hts t ht
          · rw [List.mem_singleton.mp ht]; exact ⟨okt, by omega⟩
    · obtain ⟨v4, v5, v6, v7, v8, v9, v10, vs, ts, rfl, eG, own, al, hl, hts⟩ := iv
      rw [List.length_range] at hl
      dsimp only
      refine s_ret lp.st.sub (gv_var rfl) fun H7 e7 => ?_
      have own7 := own.grow e7
      exact k fd (upd G6 fd (.lst vs)) H7 ts ((lp.st.grow e7).tell own7.g own7.h0 own7.at_) ⟨vs, upd_same, al.imp fun _ _ _ _ h => tst_mono _ _ _ _ (Same.put own7.g) h⟩ ⟨by omega, hts⟩
end
end K25

/-! F26 -/
namespace K25
open PySem PySem.Spec PyProof.Rows L2
structure TbsG (tb : Tbs) : Prop where
  nd : (tb.map (·.1)).Nodup
  nm : ∀ t ∈ tb, Nm t.1
  ok : ∀ t ∈ tb, FsG (tb.map (·.1)) t.2
  lo : 1 ≤ tb.length
  hi : tb.length ≤ 3
theorem FsG.ok' {tabs : List Str} {fs : Flds} (h : FsG tabs fs) (n : ∀ t ∈ tabs, Nm t) : FsOk fs :=
  ⟨h.nd, h.nm, fun f hf => by
    have := h.ok f hf
    cases z : f.2 with
    | mark ws => rw [z] at this; exact ⟨this.2.2.1, by have := this.2.2.2; omega, this.2.1, this.1⟩
    | link t => rw [z] at this; exact n t this
    | tag => trivial, h.c1, h.c2, h.c3, h.len⟩
theorem TbsG.tok {tb : Tbs} (h : TbsG tb) : TbsOk tb :=
  ⟨h.nd, h.nm, fun t ht => (h.ok t ht).ok' fun u hu => by obtain ⟨q, hq, rfl⟩ := List.mem_map.mp hu; exact h.nm q hq, h.lo, h.hi, fun t ht f hf u e => by have := (h.ok t ht).ok f hf; rw [e] at this; exact this⟩
section
variable {K : PySem.W.Frag} {σ : L2.St} {G H : Hp} {A : Int → Prop} {ta tb : TE} {v : V} {D : Ends} {rest : TS}
theorem q_parVZ {i j : Nat} (s : Sub G H) (h1 : Gv ta σ G v) (h2 : Gz A tb σ G) (k : ∀ n H', Same H H' → A n → rest D ((σ.set i (some v)).set j (some (.int n))) H') : tSeq (tPar i j (tCons ta (tCons tb tNil))) rest D σ H :=
  h1 H s _ fun H1 e1 => h2 H1 (s.same e1) _ fun n H2 e2 p => ⟨v, .int n, rfl, k n H2 (e1.trans e2) p⟩
theorem ge_tests {E : XK} {t0 t1 t2 : TE} {b d : Addr} {tabs : List Str} {fs : Flds} (hb : BagAt G b) (hd : FsAt G d fs) (og : FsG tabs fs) (h0 : Gv t0 σ G (.ref b)) (h1 : Gv t1 σ G (.ref d)) (h2 : Gz (fun r => 0 ≤ r ∧ r ≤ 2) t2 σ G) : Ge (tCall spTests [] E (tCons t0 (tCons t1 (tCons t2 tNil)))) σ G fun v G' => ∃ ts, TsV v ts G' ∧ TsOk fs ts := fun H s _ Q q =>
  h0 H s _ fun H1 e1 => h1 H1 (s.same e1) _ fun H2 e2 => h2 H2 ((s.same e1).same e2) _ fun r H3 e3 hr => ⟨b, d, r, tabs, fs, G, rfl, ((s.same e1).same e2).same e3, hb, hd, og, hr.1, hr.2, fun p G' H' ts st hl ok => q _ G' H' (Stp.pre ((e1.trans e2).trans e3) st) ⟨ts, ⟨p, rfl, hl⟩, ok⟩⟩
end
section
variable {P : Program} {w : World} {K : PySem.W.Frag} {mg : Str → Option Value} {base : Heap}
def spOneRule : Sp := fun vs H Q _ => ∃ (b d : Addr) (n : Str) (tb : Tbs) (G : Hp), vs = [.ref b, .ref d, .str n] ∧ Sub G H ∧ BagAt G b ∧ TbsAt G d tb ∧ TbsG tb ∧
  ∀ v G' H' r, Stp G H G' H' → RulV v r G' → r.name = n → RulOk tb r → Q v H'
abbrev N_w_one_rule : List Str := ["_law_bag_here", "_law_tables_here", "_law_name", "_law_table", "_law_fields_here", "_law_kind", "_law_links", "_law_tags", "_law_field", "_law_there"]
theorem sc_w_one_rule : FnScope N_w_one_rule ["_law_bag_here", "_law_tables_here", "_law_name"] (defScope s_w_one_rule) := ⟨rfl, rfl, rfl, by decide +kernel, rfl, by decide +kernel, by decide +kernel⟩
-- slots: 0 _law_bag_here, 1 _law_tables_here, 2 _law_name, 3 _law_table, 4 _law_fields_here, 5 _law_kind, 6 _law_links, 7 _law_tags, 8 _law_field, 9 _law_there
theorem c_w_one_rule (T : Tx K mg) : Cal P w K mg base 3 "_law_one_rule" spOneRule := by
  refine ⟨_, _, ["_law_bag_here", "_law_tables_here", "_law_name"], fn_body T.f_w_one_rule sc_w_one_rule (fun vs H Q E h => by obtain ⟨_, _, _, _, _, rfl, _⟩ := h; rfl) (fun cdv A outer s H vs Q E hr h => ?_), T.g_w_one_rule, T.f_w_one_rule.kp, T.f_w_one_rule.bindsN fun _ _ _ _ _ _ us hl => match us, hl with | [_, _, _], _ => rfl⟩
  obtain ⟨b, d, n, tb, G, rfl, sG, hb, ⟨kvs, hd, hp⟩, og, k⟩ := h
  have hu := hu_of hr
  refine ⟨_,
    (pss_cons (ps_set (i := 3) sc_w_one_rule.nd rfl (Or.inl rfl) (pe_ix (ix_listK rfl) (pe_callB (cr_sortedD rfl) (by rfl) T.b_sorted (by decide +kernel) (pa_cons (pv 1) pa_nil)) (pe_cal (c_w_take T) hr (by decide) rfl (pa_cons (pv 0) (pa_cons (pe_callB call_lenR (by rfl) T.b_len (by decide +kernel) (pa_cons (pv 1) pa_nil)) pa_nil))) (fun _ _ => rfl)))
    (pss_cons (ps_par (i := 4) (j := 5) (by rfl) sc_w_one_rule.nd rfl rfl (by decide) rfl rfl (pa_cons (pe_dget hu (pv 1) (pv 3) (fun _ _ => rfl)) (pa_cons (pe_cal (c_w_take T) hr (by decide) rfl (pa_cons (pv 0) (pa_cons pe_int pa_nil))) pa_nil)) (by rfl))
    (pss_cons (ps_par (i := 6) (j := 7) (by rfl) sc_w_one_rule.nd rfl rfl (by decide) rfl rfl (pa_cons (pe_cal (c_w_like T) hr (by decide) rfl (pa_cons (pv 4) (pa_cons pe_str pa_nil))) (pa_cons (pe_cal (c_w_like T) hr (by decide) rfl (pa_cons (pv 4) (pa_cons pe_str pa_nil))) pa_nil)) (by rfl))
    (pss_cons (ps_if (PW.pt (pw_and (pt_cmpR op_lt (pv 5) pe_int (nomark _)) (pw_and1 (pt_cmpR (op_neNilK rfl hr.units) (pv 6) (pe_lst pa_nil) (nomark _)))))
      (pss_cons (ps_set (i := 8) sc_w_one_rule.nd rfl (Or.inl rfl) (pe_ix (ix_listK rfl) (pv 6) (pe_cal (c_w_take T) hr (by decide) rfl (pa_cons (pv 0) (pa_cons (pe_callB (call_len_seqK rfl) (by rfl) T.b_len (by decide +kernel) (pa_cons (pv 6) pa_nil)) pa_nil))) (fun _ _ => rfl)))
      (pss_cons (ps_set (i := 9) sc_w_one_rule.nd rfl (Or.inl rfl) (pe_cal (c_w_tests T) hr (by decide) rfl (pa_cons (pv 0) (pa_cons (pe_dget hu (pv 1) (pe_ix (ix_tupK rfl) (pe_dget hu (pv 4) (pv 8) (fun _ _ => rfl)) pe_int (fun _ _ => rfl)) (fun _ _ => rfl)) (pa_cons pe_int pa_nil)))))
      (pss_one (ps_ret (pe_tup (pa_cons (pv 2) (pa_cons pe_str (pa_cons (pv 3) (pa_cons (pv 8) (pa_cons (pe_cal (c_w_tests T) hr (by decide) rfl (pa_cons (pv 0) (pa_cons (pv 4) (pa_cons pe_int pa_nil)))) (pa_cons (pv 9) pa_nil)))))))))))
      pss_nil)
    (pss_cons (ps_if (PW.pt (pw_and (pt_cmpR op_eq (pv 5) pe_int (nomark _)) (pw_and1 (pt_cmpR (op_neNilK rfl hr.units) (pv 7) (pe_lst pa_nil) (nomark _)))))
      (pss_one (ps_ret (pe_tup (pa_cons (pv 2) (pa_cons pe_str (pa_cons (pv 3) (pa_cons (pe_ix (ix_listK rfl) (pv 7) (pe_cal (c_w_take T) hr (by decide) rfl (pa_cons (pv 0) (pa_cons (pe_callB (call_len_seqK rfl) (by rfl) T.b_len (by decide +kernel) (pa_cons (pv 7) pa_nil)) pa_nil))) (fun _ _ => rfl)) pa_nil)))))))
      pss_nil)
    (pss_cons (ps_if (pt_cmpR op_eq (pv 5) pe_int (nomark _))
      (pss_one (ps_ret (pe_tup (pa_cons (pv 2) (pa_cons pe_str (pa_cons (pv 3) (pa_cons (pe_cal (c_w_tests T) hr (by decide) rfl (pa_cons (pv 0) (pa_cons (pv 4) (pa_cons pe_int pa_nil)))) pa_nil)))))))
      pss_nil)
    (pss_one (ps_ret (pe_tup (pa_cons (pv 2) (pa_cons pe_str (pa_cons (pv 3) (pa_cons (pe_cal (c_w_tests T) hr (by decide) rfl (pa_cons (pv 0) (pa_cons (pv 4) (pa_cons (pe_op op_add pe_int (pe_cal (c_w_take T) hr (by decide) rfl (pa_cons (pv 0) (pa_cons pe_int pa_nil)))) pa_nil)))) pa_nil))))))))))))), ?_⟩
  have lk := hp.length
  have lo := og.lo
  have hi := og.hi
  refine q_setX sG ((gw_ixN (gl_sortedD (ks := tb.map (·.1)) (gv_var rfl) hd hp.keys (by rw [List.length_map]; omega)) ((gz_take hb (gv_var rfl) (gv_lenD (n := tb.length) (gv_var rfl) hd (by rw [lk])) (by omega) (by omega)).imp fun r hr => by rw [List.length_map, sortS_len, List.length_map]; exact hr)).gx) fun v G1 H1 s1 hv => ?_
  obtain ⟨hv, eg⟩ := hv
  subst eg
  obtain ⟨t, ht, rfl⟩ := List.mem_map.mp hv
  obtain ⟨fs, efs⟩ := valD_in (sortS_mem.mp ht)
  obtain ⟨fv, hfv, fa, rfl, hfa⟩ := (hp.get t).1 fs efs
  have ogf := og.ok _ (valD_mem efs)
  refine q_parVZ s1.sub (gv_dget (k := Sum.inr t) (gv_var rfl) (gv_var rfl) hd hfv) (gz_take hb (gv_var rfl) gv_c (by decide) (by decide)) fun c H2 e2 hc => ?_
  have s2 := s1.grow e2
  refine q_parNN s2.sub (gn_like (gv_var rfl) gv_c hfa ogf.nd ogf.len) (gn_like (gv_var rfl) gv_c hfa ogf.nd ogf.len) fun lp tp H3 e3 hl0 ht0 nlt hl ht' => ?_
  have gl0 := s2.sub.non hl0
  have st3 := (s2.grow e3).tell gl0 (s2.keep.free hl0) hl
  have gt0 : (upd G1 lp (.lst ((fLike (srtD fs) "link").map V.str))) tp = none := by rw [upd_ne (Ne.symm nlt)]; exact s2.sub.non ht0
  have st4 := st3.tell gt0 (s2.keep.free ht0) ht'
  have e4 : Same G1 (upd (upd G1 lp (.lst ((fLike (srtD fs) "link").map V.str))) tp (.lst ((fLike (srtD fs) "tag").map V.str))) := (Same.put gl0).trans (Same.put gt0)
  have hlk : (upd (upd G1 lp (.lst ((fLike (srtD fs) "link").map V.str))) tp (.lst ((fLike (srtD fs) "tag").map V.str))) lp = some (sL (fLike (srtD fs) "link")) := by rw [upd_ne nlt]; exact upd_same
  have htg : (upd (upd G1 lp (.lst ((fLike (srtD fs) "link").map V.str))) tp (.lst ((fLike (srtD fs) "tag").map V.str))) tp = some (sL (fLike (srtD fs) "tag")) := upd_same
  have hb4 := hb.mono e4
  have hd4 := e4 _ _ hd
  have hp4 := hp.mono fs_mono e4
  have hfa4 : FsAt _ fa fs := hfa.mono fld_mono e4
  generalize upd (upd G1 lp (.lst ((fLike (srtD fs) "link").map V.str))) tp (.lst ((fLike (srtD fs) "tag").map V.str)) = G4 at *
  obtain ⟨fkv, hfd, hfp⟩ := id hfa4
  have neNil : ∀ {σ : L2.St} {i : Nat} {p : Addr} {xs : List Str}, σ[i]? = some (some (.ref p)) → G4 p = some (sL xs) → Gt (tTest (tOp (rEqNil K true) (tVar i) (tLst tNil))) σ G4 (!xs.isEmpty) := fun {σ i p xs} h hp => gt_test (gv_eq (by cases xs <;> rfl) (gv_eqNilX (neg := true) (b := (xs.map V.str).isEmpty) ((gv_var h).gx.imp fun v G' e hv => ⟨p, _, hv.1, by rw [hv.2]; exact hp, rfl⟩) fun G' => gl_lst ga_nil (by decide)))
  have pos : ∀ {xs : List Str}, xs ≠ [] → 0 < xs.length := fun h => List.length_pos_iff.mpr h
  have lfl : ∀ so, (fLike (srtD fs) so).length ≤ 6 := fun so => by
    unfold fLike
    rw [List.length_map]
    have := List.length_filter_le (fun f : Str × Fld => decide (f.2.sort = so)) (srtD fs)
    have l6 : fs.length ≤ 6 := ogf.len
    rw [srtD_len] at this
    omega
  have inl : ∀ {f so : Str}, f ∈ fLike (srtD fs) so → ∃ g, valD fs f = some g ∧ g.sort = so := fun h => by
    obtain ⟨g, h1, h2⟩ := (fLike_mem (srtD_nodup ogf.nd)).mp h
    exact ⟨g, valD_of ogf.nd (srtD_mem.mp (valD_mem h1)), h2⟩
  have two : ∀ {σ : L2.St} {j : Int}, 0 ≤ j → j ≤ 2 → Gz (fun r => 0 ≤ r ∧ r ≤ 2) (tC (.int j)) σ G4 := fun h1 h2 => gz_v gv_c ⟨h1, h2⟩
  refine q_of (s_if st4.sub (gt_and (gt_test (gv_op (gv_var rfl) gv_c rv_I0)) fun _ => neNil rfl hlk) (fun hc1 H4 e5 => ?_) fun _ H4 e5 => ?_)
  · have hne : fLike (srtD fs) "link" ≠ [] := fun z => by rw [z] at hc1; simp at hc1
    have s5 := st4.grow e5
    have lt := pos hne
    have lt6 := lfl "link"
    refine q_setX s5.sub ((gw_ixL (gv_var rfl) hlk ((gz_take hb4 (gv_var rfl) (gv_lenL (gv_var rfl) hlk (by rw [List.length_map])) (by omega) (by omega)).imp fun r hr => by rw [List.length_map]; exact hr)).gx) fun v G5 H5 s6 hv => ?_
    obtain ⟨hv, eg⟩ := hv
    subst eg
    obtain ⟨f, hf, rfl⟩ := List.mem_map.mp hv
    obtain ⟨g, efl, gs⟩ := inl hf
    cases g with
    | tag => exact absurd gs (show ¬ (("tag" : Str) = "link") by decide)
    | mark ws => exact absurd gs (show ¬ (("mark" : Str) = "link") by decide)
    | link u =>
      have st5 := s5.trans s6
      have hu' : u ∈ tb.map (·.1) := ogf.ok _ (valD_mem efl)
      obtain ⟨gs', egs⟩ := valD_in hu'
      obtain ⟨gv, hgv, ga, rfl, hga⟩ := (hp4.get u).1 gs' egs
      have ogg := og.ok _ (valD_mem egs)
      obtain ⟨fv2, hfv2, la, rfl, hla⟩ := (hfp.get f).1 _ efl
      refine q_setX st5.sub (ge_tests hb4 hga ogg (gv_var rfl) (gv_dget (k := Sum.inr u) (gv_var rfl) (gv_op (gv_dget (k := Sum.inr f) (gv_var rfl) (gv_var rfl) hfd hfv2) gv_c (rv_ixT hla (atN (j := 1) rfl))) hd4 hgv) (two (by decide) (by decide))) fun tv G6 H6 s7 hv => ?_
      obtain ⟨th, hth, okth⟩ := hv
      have st6 := st5.trans s7
      refine s_retX (Φ := fun v G' => ∃ ts, RulV v (.link n t f ts th) G' ∧ TsOk fs ts) st6.sub (ge_tup (gxa_consV (gv_var rfl) (gxa_consV gv_c (gxa_consV (gv_var rfl) (gxa_consV (gv_var rfl) (gxa_cons (ge_tests (hb4.mono s7.ex) (hfa4.mono fld_mono s7.ex) ogf (gv_var rfl) (gv_var rfl) (gz_v gv_c ⟨by decide, by decide⟩)) fun v G' e hv => gxa_consV (gv_var rfl) (gxa_nil ⟨few rfl, fun p gp => ?_⟩))))))) fun v G' H7 s8 hv => ?_
      · obtain ⟨ts, h1, h2⟩ := hv
        exact ⟨ts, ⟨p, v, tv, rfl, upd_same, ts_mono _ _ _ _ (Same.put gp) h1, ts_mono _ _ _ _ (e.trans (Same.put gp)) hth⟩, h2⟩
      · obtain ⟨ts, h1, h2⟩ := hv
        exact k v G' H7 _ (st6.trans s8) h1 rfl ⟨fs, u, gs', efs, efl, egs, h2, okth⟩
  · have s5 := st4.grow e5
    refine q_of (s_if s5.sub (gt_and (gt_test (gv_op (gv_var rfl) gv_c (rv_eq rfl))) fun _ => neNil rfl htg) (fun hc1 H5 e6 => ?_) fun _ H5 e6 => ?_)
    · have hne : fLike (srtD fs) "tag" ≠ [] := fun z => by rw [z] at hc1; simp at hc1
      have s6 := s5.grow e6
      have lt := pos hne
      have lt6 := lfl "tag"
      refine s_retX (Φ := fun v G' => ∃ f, RulV v (.uniq n t f) G' ∧ f ∈ fLike (srtD fs) "tag") s6.sub (ge_tup (gxa_consV (gv_var rfl) (gxa_consV gv_c (gxa_consV (gv_var rfl) (gxa_cons ((gw_ixL (gv_var rfl) htg ((gz_take hb4 (gv_var rfl) (gv_lenL (gv_var rfl) htg (by rw [List.length_map])) (by omega) (by omega)).imp fun r hr => by rw [List.length_map]; exact hr)).gx) fun v G' e hv => gxa_nil ⟨few rfl, fun p gp => ?_⟩))))) fun v G' H7 s8 hv => ?_
      · obtain ⟨hv, _⟩ := hv
        obtain ⟨f, hf, rfl⟩ := List.mem_map.mp hv
        exact ⟨f, ⟨p, rfl, upd_same⟩, hf⟩
      · obtain ⟨f, h1, h2⟩ := hv
        obtain ⟨g, eg, gs⟩ := inl h2
        refine k v G' H7 _ (s6.trans s8) h1 rfl ⟨fs, efs, ?_⟩
        cases g with
        | tag => exact eg
        | mark ws => exact absurd gs (show ¬ (("mark" : Str) = "tag") by decide)
        | link u => exact absurd gs (show ¬ (("link" : Str) = "tag") by decide)
    · have s6 := s5.grow e6
      refine q_of (s_if s6.sub (gt_test (gv_op (gv_var rfl) gv_c (rv_eq rfl))) (fun hc1 H6 e7 => ?_) fun _ H6 e7 => ?_)
      · have s7 := s6.grow e7
        refine s_retX (Φ := fun v G' => ∃ ts, RulV v (.some n t ts) G' ∧ TsOk fs ts) s7.sub (ge_tup (gxa_consV (gv_var rfl) (gxa_consV gv_c (gxa_consV (gv_var rfl) (gxa_cons (ge_tests hb4 hfa4 ogf (gv_var rfl) (gv_var rfl) (two (by decide) (by decide))) fun v G' e hv => gxa_nil ⟨few rfl, fun p gp => ?_⟩))))) fun v G' H7 s8 hv => ?_
        · obtain ⟨ts, h1, h2⟩ := hv
          exact ⟨ts, ⟨p, v, rfl, upd_same, ts_mono _ _ _ _ (Same.put gp) h1⟩, h2⟩
        · obtain ⟨ts, h1, h2⟩ := hv
          exact k v G' H7 _ (s7.trans s8) h1 rfl ⟨fs, efs, h2⟩
      · have s7 := s6.grow e7
        refine s_retX (Φ := fun v G' => ∃ ts, RulV v (.check n t ts) G' ∧ TsOk fs ts) s7.sub (ge_tup (gxa_consV (gv_var rfl) (gxa_consV gv_c (gxa_consV (gv_var rfl) (gxa_cons (ge_tests hb4 hfa4 ogf (gv_var rfl) (gv_var rfl) (gz_op0 (gz_v (A := fun x => x = 1) gv_c rfl) (gz_take hb4 (gv_var rfl) gv_c (by decide) (by decide)) fun x y hx hy => by omega)) fun v G' e hv => gxa_nil ⟨few rfl, fun p gp => ?_⟩))))) fun v G' H7 s8 hv => ?_
        · obtain ⟨ts, h1, h2⟩ := hv
          exact ⟨ts, ⟨p, v, rfl, upd_same, ts_mono _ _ _ _ (Same.put gp) h1⟩, h2⟩
        · obtain ⟨ts, h1, h2⟩ := hv
          exact k v G' H7 _ (s7.trans s8) h1 rfl ⟨fs, efs, h2⟩
end
end K25

/-! F27 -/
namespace K25
open PySem PySem.Spec PyProof.Rows L2
theorem mergeK_new : ∀ (kvs acc : List (Key × V)), ((acc ++ kvs).map (·.1)).Nodup → mergeK acc kvs = acc ++ kvs
  | [], acc, _ => by rw [List.append_nil]; rfl
  | kv :: kvs, acc, h => by
    have e : putK acc kv.1 kv.2 = acc ++ [kv] := by
      refine putK_new _ ?_
      cases z : valV acc kv.1 with
      | none => rfl
      | some w =>
        exfalso
        unfold valV at z
        cases f : acc.find? fun q => decide (q.1 = kv.1) with
        | none => rw [f] at z; cases z
        | some q =>
          have hq := List.mem_of_find?_eq_some f
          have fs := List.find?_some f
          have eq : q.1 = kv.1 := of_decide_eq_true fs
          rw [List.map_append, List.nodup_append] at h
          exact h.2.2 q.1 (List.mem_map.mpr ⟨q, hq, rfl⟩) kv.1 (by simp) eq
    show mergeK (putK acc kv.1 kv.2) kvs = _
    rw [e, mergeK_new kvs (acc ++ [kv]) (by rw [List.append_assoc]; exact h), List.append_assoc]
    rfl
section
variable {δ : Type} {K : PySem.W.Frag} {σ : L2.St} {G : Hp} {te : TE} {ds : List δ}
abbrev rDictP (K : PySem.W.Frag) : List V → Hp → VK → Prop := fun xs H Q => ∃ (a : Addr) (ps : List Addr) (kvs : List (Key × V)), xs = [.ref a] ∧ SqL K H a (ps.map V.ref) ∧ Paired (fun p kv => SqT K H p [kV kv.1, kv.2]) ps kvs ∧ ∀ p, H p = none → Q (.ref p) (upd H p (.dK (mergeK [] kvs)))
theorem pairs_of {kf : δ → Str} {R : δ → V → Hp → Prop} {xs : List V} (h : All2 (fun d v => ∃ p w, v = V.ref p ∧ G p = some (.tup [.str (kf d), w]) ∧ R d w G) ds xs) :
    ∃ (ps : List Addr) (kvs : List (Key × V)), xs = ps.map V.ref ∧ Paired (fun p kv => G p = some (.tup [kV kv.1, kv.2])) ps kvs ∧ All2 (fun d kv => kv.1 = Sum.inr (kf d) ∧ R d kv.2 G) ds kvs := by
  induction h with
  | nil => exact ⟨[], [], rfl, .nil, .nil⟩
  | @cons d v l m r _ ih =>
    obtain ⟨p, w, rfl, h1, h2⟩ := r
    obtain ⟨ps, kvs, rfl, h3, h4⟩ := ih
    exact ⟨p :: ps, (Sum.inr (kf d), w) :: kvs, rfl, .cons h1 h3, .cons ⟨rfl, h2⟩ h4⟩
theorem keys_of2 {kf : δ → Str} {R : δ → V → Hp → Prop} {kvs : List (Key × V)} (h : All2 (fun d (kv : Key × V) => kv.1 = Sum.inr (kf d) ∧ R d kv.2 G) ds kvs) : kvs.map (·.1) = (ds.map kf).map Sum.inr := by
  induction h with
  | nil => rfl
  | cons r _ ih => rw [List.map_cons, List.map_cons, List.map_cons, r.1, ih]
theorem ge_dictP (kf : δ → Str) (R : δ → V → Hp → Prop) (hR : ∀ d v G1 G2, Same G1 G2 → R d v G1 → R d v G2) (hn : (ds.map kf).Nodup)
    (h : Gm Fr0 te σ G fun o G' => ∃ xs, o = .lst xs ∧ All2 (fun d v => ∃ p w, v = V.ref p ∧ G' p = some (.tup [.str (kf d), w]) ∧ R d w G') ds xs) :
    Ge (tCB (rDictP K) (tCons te tNil)) σ G fun v G' => ∃ (D : Addr) (kvs : List (Key × V)), v = .ref D ∧ G' D = some (.dK kvs) ∧ All2 (fun d kv => kv.1 = Sum.inr (kf d) ∧ R d kv.2 G') ds kvs := fun H s _ Q q =>
  h H s trivial _ fun p o G1 H1 st hp gp hp' ho => by
    obtain ⟨xs, rfl, al⟩ := ho
    obtain ⟨ps, kvs, rfl, hpr, hk⟩ := pairs_of al
    have keys : ((([] : List (Key × V)) ++ kvs).map (·.1)).Nodup := by
      rw [List.nil_append]
      have e := keys_of2 hk
      rw [e]
      exact List.pairwise_map.mpr (hn.imp fun h z => h (Sum.inr.inj z))
    refine ⟨p, ps, kvs, rfl, SqL.of hp', Paired.mapP hpr fun a kv e => SqT.of (st.sub.tup e), fun D hD => ?_⟩
    rw [mergeK_new kvs [] keys, List.nil_append]
    have gD := st.sub.non hD
    exact q _ (upd G1 D (.dK kvs)) _ (st.lay hD) ⟨D, kvs, rfl, upd_same, hk.imp fun _ _ _ _ r => ⟨r.1, hR _ _ _ _ (Same.put gD) r.2⟩⟩
end
end K25

/-! F28 -/
namespace K25
open PySem PySem.Spec PyProof.Rows L2
theorem tb_of {tabs ds : List Str} {G : Hp} {kvs : List (Key × V)} (h : All2 (fun d (kv : Key × V) => kv.1 = Sum.inr (id d) ∧ ∃ fs, FsV kv.2 fs G ∧ FsG tabs fs) ds kvs) : ∃ tb : Tbs, PrD FsV G kvs tb ∧ tb.map (·.1) = ds ∧ ∀ t ∈ tb, FsG tabs t.2 := by
  induction h with
  | nil => exact ⟨[], .nil, rfl, fun _ h => (nomatch h)⟩
  | @cons d kv l m r _ ih =>
    obtain ⟨r1, fs, r2, r3⟩ := r
    obtain ⟨tb, h1, h2, h3⟩ := ih
    exact ⟨(d, fs) :: tb, .cons ⟨r1, r2⟩ h1, by rw [List.map_cons, h2], fun t ht => by rcases List.mem_cons.mp ht with rfl | ht; exact r3; exact h3 t ht⟩
theorem rs_of {tb : Tbs} {ds : List Str} {xs : List V} {G : Hp} (h : All2 (fun d v => ∃ r, RulV v r G ∧ r.name = d ∧ RulOk tb r) ds xs) : ∃ rs : List Rul, All2 (fun v r => RulV v r G) xs rs ∧ rs.map Rul.name = ds ∧ ∀ r ∈ rs, RulOk tb r := by
  induction h with
  | nil => exact ⟨[], .nil, rfl, fun _ h => (nomatch h)⟩
  | @cons d v l m r _ ih =>
    obtain ⟨r, r1, r2, r3⟩ := r
    obtain ⟨rs, h1, h2, h3⟩ := ih
    exact ⟨r :: rs, .cons r1 h1, by rw [List.map_cons, h2, r2], fun t ht => by rcases List.mem_cons.mp ht with rfl | ht; exact r3; exact h3 t ht⟩
theorem ge_one {σ : L2.St} {G : Hp} {E : XK} {t0 t1 t2 : TE} {b d : Addr} {n : Str} {tb : Tbs} (hb : BagAt G b) (hd : TbsAt G d tb) (og : TbsG tb) (h0 : Gv t0 σ G (.ref b)) (h1 : Gv t1 σ G (.ref d)) (h2 : Gv t2 σ G (.str n)) : Ge (tCall spOneRule [] E (tCons t0 (tCons t1 (tCons t2 tNil)))) σ G fun v G' => ∃ r, RulV v r G' ∧ r.name = n ∧ RulOk tb r := fun H s _ Q q =>
  h0 H s _ fun H1 e1 => h1 H1 (s.same e1) _ fun H2 e2 => h2 H2 ((s.same e1).same e2) _ fun H3 e3 => ⟨b, d, n, tb, G, rfl, ((s.same e1).same e2).same e3, hb, hd, og, fun v G' H' r st hr e ok => q _ G' H' (Stp.pre ((e1.trans e2).trans e3) st) ⟨r, hr, e, ok⟩⟩
theorem ge_fields {σ : L2.St} {G : Hp} {E : XK} {t0 t1 t2 : TE} {b tl : Addr} {tabs : List Str} {n : Int} (hb : BagAt G b) (ht : G tl = some (sL tabs)) (l1 : 1 ≤ tabs.length) (l2 : tabs.length ≤ 1000) (n0 : 0 < n) (nM : n < 1073741824) (h0 : Gv t0 σ G (.ref b)) (h1 : Gv t1 σ G (.ref tl)) (h2 : Gv t2 σ G (.int n)) : Ge (tCall spFields [] E (tCons t0 (tCons t1 (tCons t2 tNil)))) σ G fun v G' => ∃ fs, FsV v fs G' ∧ FsG tabs fs := fun H s _ Q q =>
  h0 H s _ fun H1 e1 => h1 H1 (s.same e1) _ fun H2 e2 => h2 H2 ((s.same e1).same e2) _ fun H3 e3 => ⟨b, tl, tabs, n, G, rfl, ((s.same e1).same e2).same e3, hb, ht, l1, l2, n0, nM, fun p G' H' fs st hf og => q _ G' H' (Stp.pre ((e1.trans e2).trans e3) st) ⟨fs, ⟨p, rfl, hf⟩, og⟩⟩
section
variable {P : Program} {w : World} {K : PySem.W.Frag} {mg : Str → Option Value} {base : Heap}
def spParts : Sp := fun vs H Q _ => ∃ (b : Addr) (G : Hp), vs = [.ref b, .int 3, .int 3, .int 4] ∧ Sub G H ∧ BagAt G b ∧
  ∀ p d l G' H' tb rs, Stp G H G' H' → G' p = some (.tup [.ref d, .ref l]) → TbsAt G' d tb → RsAt G' l rs → TbsG tb → RsOk tb rs → Q (.ref p) H'
abbrev N_w_parts : List Str := ["_law_bag_here", "_law_many", "_law_rare", "_law_rules", "_law_tables_here", "_law_found", "_law_table", "_law_names_here", "_law_name"]
theorem sc_w_parts : FnScope N_w_parts ["_law_bag_here", "_law_many", "_law_rare", "_law_rules"] (defScope s_w_parts) := ⟨rfl, rfl, rfl, by decide +kernel, rfl, by decide +kernel, by decide +kernel⟩
-- slots: 0 _law_bag_here*, 1 _law_many, 2 _law_rare*, 3 _law_rules, 4 _law_tables_here*, 5 _law_found*, 6 _law_table, 7 _law_names_here, 8 _law_name
theorem c_w_parts (T : Tx K mg) : Cal P w K mg base 4 "_law_parts" spParts := by
  refine ⟨_, _, ["_law_bag_here", "_law_many", "_law_rare", "_law_rules"], fn_body T.f_w_parts sc_w_parts (fun vs H Q E h => by obtain ⟨_, _, rfl, _⟩ := h; rfl) (fun cdv A outer s H vs Q E hr h => ?_), T.g_w_parts, T.f_w_parts.kp, T.f_w_parts.bindsN fun _ _ _ _ _ _ us hl => match us, hl with | [_, _, _, _], _ => rfl⟩
  obtain ⟨b, G, rfl, sG, hb, k⟩ := h
  have hu := hu_of hr
  refine ⟨_,
    (pss_cons (ps_set (i := 4) sc_w_parts.nd rfl (Or.inr rfl) (pe_cal (c_w_names T) hr (by decide) rfl (pa_cons (pv 0) (pa_cons (pe_op op_add pe_int (pe_cal (c_w_take T) hr (by decide) rfl (pa_cons (pv 0) (pa_cons (pv 1) pa_nil)))) pa_nil))))
    (pss_cons (ps_set (i := 5) sc_w_parts.nd rfl (Or.inr rfl) (pe_callTy (call_dictP rfl) (by rfl) T.b_dict (by decide +kernel) (pa_cons (pe_lc rfl sc_w_parts.nd (pi_listK rfl (pv 4)) (blkOk_by (own := [("_law_table", 6)]) (N := N_w_parts) (sc := defScope s_w_parts) (by decide +kernel)) (fun _ _ _ _ _ => (pg_name (i := 6) sc_w_parts.nd rfl (Or.inl rfl))) (fun _ _ _ _ _ => pts_nil) (fun _ _ _ _ _ => (pe_tup (pa_cons (pv 6) (pa_cons (pe_cal (c_w_fields T) hr (by decide) rfl (pa_cons (pv 0) (pa_cons (pv 4) (pa_cons (pv 2) pa_nil)))) pa_nil))))) pa_nil)))
    (pss_cons (ps_set (i := 7) sc_w_parts.nd rfl (Or.inl rfl) (pe_cal (c_w_names T) hr (by decide) rfl (pa_cons (pv 0) (pa_cons (pe_cal (c_w_take T) hr (by decide) rfl (pa_cons (pv 0) (pa_cons (pe_op op_add (pv 3) pe_int) pa_nil))) pa_nil))))
    (pss_one (ps_ret (pe_tup (pa_cons (pv 5) (pa_cons (pe_lc rfl sc_w_parts.nd (pi_listK rfl (pv 7)) (blkOk_by (own := [("_law_name", 8)]) (N := N_w_parts) (sc := defScope s_w_parts) (by decide +kernel)) (fun _ _ _ _ _ => (pg_name (i := 8) sc_w_parts.nd rfl (Or.inl rfl))) (fun _ _ _ _ _ => pts_nil) (fun _ _ _ _ _ => (pe_cal (c_w_one_rule T) hr (by decide) rfl (pa_cons (pv 0) (pa_cons (pv 5) (pa_cons (pv 8) pa_nil)))))) pa_nil)))))))), ?_⟩
  refine q_setX sG (ge_names (lo := 1) (hi := 3) hb (gv_var rfl) (gz_op0 (gz_v (A := fun x => x = 1) gv_c rfl) (gz_take hb (gv_var rfl) (gv_var rfl) (by decide) (by decide)) fun x y hx hy => by omega) (by decide) (by decide)) fun v G1 H1 s1 hv => ?_
  obtain ⟨tl, tabs, rfl, htl, tnd, tnm, t1, t3⟩ := hv
  have hb1 := hb.mono s1.ex
  have R1 : ∀ (d : Str) (v : V) (Ga Gb : Hp), Same Ga Gb → (∃ fs, FsV v fs Ga ∧ FsG tabs fs) → (∃ fs, FsV v fs Gb ∧ FsG tabs fs) := fun d v Ga Gb e ⟨fs, h1, h2⟩ => ⟨fs, fs_mono _ _ _ _ e h1, h2⟩
  refine q_setX s1.sub (ge_dictP (ds := tabs) id (fun _ v G' => ∃ fs, FsV v fs G' ∧ FsG tabs fs) R1 (by rw [List.map_id]; exact tnd) (gm_imp (gm_lc (pf := fun _ => true) (ds := tabs) (fun d v G' => ∃ p w, v = V.ref p ∧ G' p = some (.tup [.str (id d), w]) ∧ ∃ fs, FsV w fs G' ∧ FsG tabs fs) (fun d v Ga Gb e ⟨p, w, h1, h2, h3⟩ => ⟨p, w, h1, e _ _ h2, R1 d w _ _ e h3⟩) (gi_list (emb := V.str) (gv_var rfl) htl) (by omega) (fun _ _ => rfl) (fun _ _ _ _ => gt_yes) (fun d hd _ G' e => ?_) fun _ _ _ _ => trivial) fun o G' ho => ?_)) fun v G2 H2 s2 hv => ?_
  · exact ge_tup (gxa_consV (gv_var rfl) (gxa_cons (ge_fields (hb1.mono e) (e _ _ htl) (by omega) (by omega) (by decide) (by decide) (gv_var rfl) (gv_var rfl) (gv_var rfl)) fun v G'' e2 hv => gxa_nil ⟨few rfl, fun p gp => ⟨p, v, rfl, upd_same, R1 d v _ _ (Same.put gp) hv⟩⟩))
  · obtain ⟨xs, rfl, al⟩ := ho
    rw [List.filter_eq_self.mpr (fun _ _ => rfl)] at al
    exact ⟨xs, rfl, al⟩
  obtain ⟨d, kvs, rfl, hd, al⟩ := hv
  have st2 := s1.trans s2
  have hb2 := hb1.mono s2.ex
  obtain ⟨tb, htb, etb, hok⟩ : ∃ tb : Tbs, PrD FsV G2 kvs tb ∧ tb.map (·.1) = tabs ∧ ∀ t ∈ tb, FsG tabs t.2 := tb_of al
  have og : TbsG tb := ⟨by rw [etb]; exact tnd, fun t ht => tnm _ (by rw [← etb]; exact List.mem_map.mpr ⟨t, ht, rfl⟩), fun t ht => by rw [etb]; exact hok t ht, by have := congrArg List.length etb; rw [List.length_map] at this; omega, by have := congrArg List.length etb; rw [List.length_map] at this; omega⟩
  refine q_setX st2.sub (ge_names (lo := 0) (hi := 4) hb2 (gv_var rfl) ((gz_take hb2 (gv_var rfl) (gv_op (gv_var rfl) gv_c rv_I0) (by decide) (by decide)).imp fun r hr => by omega) (by decide) (by decide)) fun v G3 H3 s3 hv => ?_
  obtain ⟨nl, ns, rfl, hnl, nnd, nnm, n0, n4⟩ := hv
  have st3 := st2.trans s3
  have hb3 := hb2.mono s3.ex
  have hd3 := s3.ex _ _ hd
  have htb3 := htb.mono fs_mono s3.ex
  refine s_retX (Φ := fun v G' => ∃ p l rs, v = .ref p ∧ G' p = some (.tup [.ref d, .ref l]) ∧ RsAt G' l rs ∧ RsOk tb rs) st3.sub (ge_tup (gxa_consV (gv_var rfl) (gxa_cons (Ψ := fun v G' => ∃ l rs, v = .ref l ∧ RsAt G' l rs ∧ RsOk tb rs) (ge_gm (gm_lc (pf := fun _ => true) (ds := ns) (fun n v G' => ∃ r, RulV v r G' ∧ r.name = n ∧ RulOk tb r) (fun n v Ga Gb e ⟨r, h1, h2⟩ => ⟨r, rul_mono _ _ _ _ e h1, h2⟩) (gi_list (emb := V.str) (gv_var rfl) hnl) (by omega) (fun _ _ => rfl) (fun _ _ _ _ => gt_yes) (fun n hn _ G' e => ge_one (hb3.mono e) ⟨kvs, e _ _ hd3, htb3.mono fs_mono e⟩ og (gv_var rfl) (gv_var rfl) (gv_var rfl)) fun _ _ _ _ => trivial) fun l o G' e gl ho => ?_) fun v G' e hv => gxa_nil ⟨few rfl, fun p gp => ?_⟩))) fun v G4 H4 s4 hv => ?_
  · obtain ⟨xs, rfl, al⟩ := ho
    rw [List.filter_eq_self.mpr (fun _ _ => rfl)] at al
    obtain ⟨rs, h1, h2, h3⟩ := rs_of al
    refine ⟨l, rs, rfl, ⟨xs, upd_same, h1.imp fun _ _ _ _ r => rul_mono _ _ _ _ (Same.put gl) r⟩, ⟨fun r hr => nnm _ (by rw [← h2]; exact List.mem_map.mpr ⟨r, hr, rfl⟩), by rw [h2]; exact nnd, h3, by have := congrArg List.length h2; rw [List.length_map] at this; omega⟩⟩
  · obtain ⟨l, rs, rfl, h1, h2⟩ := hv
    exact ⟨p, l, rs, rfl, upd_same, h1.mono rul_mono (Same.put gp), h2⟩
  · obtain ⟨p, l, rs, rfl, h1, h2, h3⟩ := hv
    have e4 := s3.ex.trans s4.ex
    exact k p d l G4 H4 tb rs (st3.trans s4) h1 ⟨kvs, e4 _ _ hd, htb.mono fs_mono e4⟩ h2 og h3
end
end K25

/-! K20 -/
/-! K20: defs that are called where no repr is under way. -/
namespace K25
open PySem PySem.Spec PyProof.Rows L2
/-- a promise that holds where the guards are known: none -/
structure FnG (P : Program) (w : World) (K : PySem.W.Frag) (mg : Str → Option Value) (base : Heap) (k : Nat) (f : Addr) (fd : FuncData) (ps : List Str) (sp : Sp) : Prop where
  len : ∀ vs H Q E, sp vs H Q E → vs.length = ps.length
  run : ∀ (A : Around) (outer : List Env) (s : Shared) (H : Hp) (args : Args) (us : List Value) (vs : List V) (Q : VK) (E : XK), A.guards = some [] → Room k A → Env0 P w K mg base A outer s H → BindsTo s fd args (ps.zip us) → Vals vs us → sp vs H Q E →
    codeAny (model P w) A (.call (.ref f) args) (CR CX0 outer P w H s Q E) s
section
variable {P : Program} {w : World} {K : PySem.W.Frag} {mg : Str → Option Value} {base : Heap}
/-- a def's body, the guards known -/
theorem fn_bodyG {x qual : Str} {pa : Arguments} {bd : List Stmt} {sc : Scope} {dvs : List V} {f : Addr} {fd : FuncData} {N ps : List Str} {k : Nat} {sp : Sp} (F : FunD K x qual pa bd sc dvs [] f fd) (S : FnScope N ps sc) (len : ∀ vs H Q E, sp vs H Q E → vs.length = ps.length)
    (hbody : ∀ (cdv : Value) (A : Around) (outer : List Env) (s : Shared) (H : Hp) (vs : List V) (Q : VK) (E : XK), A.guards = some [] → Room k (A.deeper (envOfC qual sc s.heap.objs.size f cdv)) → sp vs H Q E →
      ∃ t, PSs (cxOf CX0 P w K mg base N qual sc f cdv A outer s H E).nox bd t ∧ t { nx := fun _ H' => Q .non H', rt := Q } (start N vs) H) : FnG P w K mg base (k + 1) f fd ps sp := by
  obtain ⟨oc, od, dV, kV, doc, pm, an, cdv, ct, osl, rfl, lk, hcd, _, _⟩ := F.ex
  refine ⟨len, fun A outer s H args us vs Q E hg hr e0 hb r hsp => ?_⟩
  have keep : ∀ b o, base.get? b = some o → s.heap.get? b = some o := fun b o e => (e0.bs b o e).1
  have kx : K.In s.heap := e0.mod.kin.keeps keep
  have kinds : ∀ y ∈ ps.zip us, sc.names.lookup y.1 = some .local ∨ (sc.names.lookup y.1 = some .cell ∧ ((cellsFrom (s.heap.objs.size + 1) sc.names []).lookup y.1).isSome = true) := by
    rintro ⟨n, v⟩ hy
    exact (S.par n (List.of_mem_zip hy).1).imp id fun q => ⟨q, PySem.W.cellsFrom_some _ _ _ (.inl q)⟩
  refine codeAny_call_function hr.depth (kx _ _ lk) rfl S.co S.gen rfl (PySem.W.codeRec_of kx hcd) (hb _ _ _ _ (wpAny_newFunctionEnv_cells S.kind kinds fun env he s1 x => ?_))
  subst he
  refine ⟨(e0.mod.nolimit.keeps keep).keeps x.toInCall.keep, codeAny_func ?_⟩
  obtain ⟨t, ht, hq⟩ := hbody cdv A outer s H vs Q E hg (hr.deeper _) hsp
  refine wpAny_mono (ht.nox.run [] s1 (start N vs) H _ (inv_start S hr.hd e0 (len _ _ _ _ hsp) r x) hq) (fun fl s' hs => ?_) fun e s' hs => hs
  cases fl with
  | ret u => obtain ⟨v, _, H', J, rv, q⟩ := hs; exact ⟨v, H', J.os, J.bare, J.base, J.hok, rv, q⟩
  | next => obtain ⟨_, H', J, q⟩ := hs; exact ⟨.non, H', J.os, J.bare, J.base, J.hok, rfl, q⟩
  | brk => exact (hs.choose_spec.choose_spec.2 : False).elim
  | cont => exact (hs.choose_spec.choose_spec.2 : False).elim
end
/-- such a def, by its name -/
structure CalG (P : Program) (w : World) (K : PySem.W.Frag) (mg : Str → Option Value) (base : Heap) (k : Nat) (x : Str) (sp : Sp) : Prop where
  ex : ∃ (f : Addr) (fd : FuncData) (ps : List Str), FnG P w K mg base k f fd ps sp ∧ mg x = some (.ref f) ∧ PySem.W.keepIn K (.ref f) = true ∧ Binds K fd ps []
theorem pe_calG {X : Cx} {k j : Nat} {x : Str} {sp : Sp} {p pos : Pos} {e : Expr} {es : List Expr} {t : TA} (c : CalG X.prog X.w X.K X.mg X.base k x sp) (hg : X.A.guards = some []) (hr : Room j X.A) (hk : k ≤ j) (hx : Gl X x) (ha : PA X (e :: es) t)
    (hdb : (x == ("__debug__" : Str)) = false := by decide) (he : starEach (e :: es) X.env = (false, eval e X.env) :: starEach es X.env := by rfl) (hpl : (backTo pos (starEach es X.env)).any (·.1) = false := by rfl) :
    PE X (.Call (.Name x p) (e :: es) [] pos) (tCall sp [] E0 t) := by
  obtain ⟨f, fd, ps, F, hm, kp, b⟩ := c.ex
  refine ⟨fun pins s σ H Q I h => wpAny_Call_Name_kw (ld_glob I hx hm (PySem.W.callWith_K (h₀ := X.base) I.ok.mod.kin kp (thn (ha.run pos pins s σ H _ I h) fun us s1 ⟨vs, H1, I1, r, q⟩ => ⟨I1.kIn, ?_⟩) he hpl) hdb)⟩
  replace q : sp vs H1 Q E0 := by have := q; simpa using this
  have bb := b s1 us I1.kIn (by rw [List.append_nil, ← r.length]; exact F.len _ _ _ _ q)
  rw [List.append_nil] at bb
  refine wpAny_call (codeAny_mono (F.run X.A X.stack s1 H1 ⟨us, []⟩ us vs Q E0 hg (hr.mono hk) I1.env0 bb r q) fun res s' hq => ?_)
  cases res with
  | error e => exact (hq : False).elim
  | ok fl =>
    cases fl with
    | ret u => exact I1.after hq
    | next => exact (hq : False).elim
    | brk => exact (hq : False).elim
    | cont => exact (hq : False).elim
/-! ### the law's call, the guards known there -/
theorem only_fr {H : Hp} (hO : Only H) {b : Addr} {u : HO} (e : H b = some u) : ∃ o xs, H b = some (.frz o (.lst xs)) := by
  rcases hO b with z | z
  · rw [e] at z; cases z
  · exact z
theorem law_callG {P : Program} {w : World} {K : PySem.W.Frag} {mg mb : Str → Option Value} {k : Nat} {fa a : Addr} {fd : FuncData} {x : Str} {sp : Sp} {s₁ : Shared} {vs : List Value} {ns : List Int}
    (KX : K.In s₁.heap) (hns : s₁.heap.Ns mainGlobals mg) (hb : s₁.heap.Ns builtinsNs mb) (hbb : ∀ x : Str, x ≠ "__name__" → mb x = bootBuiltins x) (hlim : s₁.heap.NoLimit) (hg : s₁.gens = #[])
    (ha : s₁.heap.get? a = some { cls := .type "list", data := .seq vs.toArray }) (hi : IntsAre vs ns) (hl : ns.length ≤ sizeLine) (hr : Room k callerA)
    (F : ∀ base : Heap, K.In base → base.Ns mainGlobals mg → FnG P w K mg base k fa fd [x] sp) (hbind : ∀ (s : Shared) (u : Value), BindsTo s fd ⟨[u], []⟩ [(x, u)])
    (hsp : ∀ H : Hp, Only H → SqL K H a (ns.map V.int) → sp [.ref a] H (fun v _ => v = .bl true) fun _ _ _ => False) :
    codeAny (model P w) callerA (.call (.ref fa) ⟨[.ref a], []⟩) (fun r s' => r = .ok (.ret (.bool true)) ∧ OldK s₁.heap s'.heap ∧ s'.os = s₁.os ∧ AllBare s'.gens) s₁ := by
  have rv := vals_ints hi
  have go : ∀ H : Hp, Only H → SqL K H a (ns.map V.int) → HOk P w H s₁.heap → (∀ b, H b ≠ none → b = a ∧ K.lookup a = none) →
      codeAny (model P w) callerA (.call (.ref fa) ⟨[.ref a], []⟩) (fun r s' => r = .ok (.ret (.bool true)) ∧ OldK s₁.heap s'.heap ∧ s'.os = s₁.os ∧ AllBare s'.gens) s₁ := by
    intro H hO hS hok hA
    have no : ∀ {b : Addr}, (b = a → K.lookup a = none → False) → H b = none := fun {b} h => by
      cases q : H b with
      | none => rfl
      | some u =>
        obtain ⟨e1, e2⟩ := hA b (by rw [q]; simp)
        exact (h e1 e2).elim
    have nsK : ∀ {b : Addr} {m : Str → Option Value}, s₁.heap.Ns b m → (hidT s₁.heap H).Ns b m := fun {b m} ⟨o, es, ep, e, d, r⟩ => ⟨o, es, ep, hidT_get e (no fun z _ => by
      rw [z, ha] at e
      cases e
      exact nomatch d), d, r⟩
    have hK2 : K.In (hidT s₁.heap H) := fun b o e => hidT_get (KX b o e) (no fun z1 z2 => by rw [z1, z2] at e; cases e)
    have e0 : Env0 P w K mg (hidT s₁.heap H) callerA [] s₁ H := ⟨rfl, ⟨hK2, nsK hns, ⟨mb, nsK hb, hbb⟩, hlim.imp fun mc h => ⟨nsK h.1, h.2⟩⟩, fun b o e => of_hidT e, Nat.le_of_eq (hidT_size _ _), trivial, fun b z => (List.not_mem_nil z).elim, hok, .of_eq hg⟩
    refine codeAny_mono ((F _ hK2 (nsK hns)).run callerA [] s₁ H ⟨[.ref a], []⟩ [.ref a] [.ref a] _ _ rfl hr e0 (hbind s₁ (.ref a)) (.cons rfl .nil) (hsp H hO hS)) fun r s' h => ?_
    rcases r with e | fl
    · exact (h : False).elim
    · cases fl with
      | ret u =>
        obtain ⟨v, H', os, bare, un, hok', r', q⟩ := h
        obtain rfl : v = V.bl true := q
        obtain rfl : u = Value.bool true := r'
        refine ⟨rfl, OldK.of_keep fun b o e => ?_, os, bare⟩
        cases q : H b with
        | none => exact un.keep b o e q (fun z => (List.not_mem_nil (show b ∈ ([] : List Addr) from z)).elim) List.not_mem_nil
        | some u =>
          obtain ⟨ob, xs, z⟩ := only_fr hO q
          obtain ⟨e1, _⟩ := hok b _ z
          obtain ⟨e2, _⟩ := hok' b _ (un.frzs b ob _ z)
          exact (Option.some.inj (e.symm.trans e1)) ▸ e2
      | next => exact (h : False).elim
      | brk => exact (h : False).elim
      | cont => exact (h : False).elim
  by_cases hk : K.lookup a = none
  · refine go (fun b => if b = a then some (.frz { cls := .type "list", data := .seq vs.toArray } (.lst (ns.map V.int))) else none) (fun b => ?_) (.inl (.inr ⟨_, if_pos rfl⟩)) (fun b u z => ?_) fun b z => ⟨?_, hk⟩
    · by_cases hb : b = a
      · exact .inr ⟨_, _, if_pos hb⟩
      · exact .inl (if_neg hb)
    · by_cases hb : b = a
      · subst hb
        cases (if_pos rfl).symm.trans z
        exact ⟨ha, by rw [List.length_map]; exact hl, vs, _, rv, ha⟩
      · cases (if_neg hb).symm.trans z
    · by_cases hb : b = a
      · exact hb
      · exact absurd (if_neg hb) z
  · obtain ⟨o, hk⟩ := Option.ne_none_iff_exists'.mp hk
    cases ha.symm.trans (KX a o hk)
    exact go (fun _ => none) (fun _ => .inl rfl) (.inr ⟨_, vs.toArray, _, hk, rfl, rfl, rfl, by rw [List.size_toArray, hi.length]; exact hl, by simpa using rv⟩) (fun b u z => nomatch z) fun b z => absurd rfl z
/-- over the head -/
theorem walk_ofG {l : PySem.W.OpenLaw} {n k : Nat} {q : Program} {loose : List Str} {XP : (Str → Option Value) → Heap → Prop} {YP : World → Heap → Prop} {d : DefRec} {x : Str}
    (hn : l.most = some n) (hn2 : n ≤ sizeLine) (hdf : d.params.defaults = []) (hr : Room k callerA)
    (F : ∀ (w : World) (mg : Str → Option Value) (fa : Addr) (h : Heap), YP w h → h.Ns mainGlobals mg → mg d.name = some (.ref fa) →
      ∃ (K : PySem.W.Frag) (fd : FuncData) (sp : Sp), K.In h ∧ (∀ (s : Shared) (u : Value), BindsTo s fd ⟨[u], []⟩ [(x, u)]) ∧
        (∀ (H : Hp) (a : Addr) (ns : List Int), ns.length ≤ n → Only H → SqL K H a (ns.map V.int) → sp [.ref a] H (fun v _ => v = .bl true) fun _ _ _ => False) ∧
        ∀ base : Heap, K.In base → base.Ns mainGlobals mg → FnG l.prog w K mg base k fa fd [x] sp) :
    PySem.W.WalkO q loose XP YP l.row.toRowW d [] (fun f vs => PySem.call f vs) := by
  refine Att.attach_call hn hdf fun w s₀ s₁ mg mb fa o pm cd doc a vs ns G Y ho hd hcd hmg hobj hints hlen hg => ?_
  obtain ⟨K, fd, sp, KX, hb, hsp, hF⟩ := F w mg fa _ Y G.T.g hmg
  exact law_callG KX G.T.g G.T.b G.T.builtins G.T.nolimit hg hobj hints (Nat.le_trans hlen hn2) hr hF hb fun H hO hS => hsp H a ns hlen hO hS
end K25

/-! K21 -/
/-! K21: d.update(e); sum(lists, []); repr of lists of lists. -/
namespace K25S
open PySem PySem.Spec PyProof.Rows
theorem args_sum2 (a b : Value) : argsOk "sum" ⟨[a, b], []⟩ := by unfold argsOk; kernel_rfl
theorem ls_str : isSubtype (.type "list") (.type "str") = pure false := by rw [isSubtype_type]; kernel_rfl
theorem ls_bytes : isSubtype (.type "list") (.type "bytes") = pure false := by rw [isSubtype_type]; kernel_rfl
theorem ls_bytearray : isSubtype (.type "list") (.type "bytearray") = pure false := by rw [isSubtype_type]; kernel_rfl
theorem take_flat {α : Type} {l : List (List α)} {i : Nat} {x : List α} (h : l[i]? = some x) : (l.take (i + 1)).flatten = (l.take i).flatten ++ x := by
  rw [List.take_add_one, h]
  simp
theorem flat_le {α : Type} {l : List (List α)} {i : Nat} {x : List α} (h : l[i]? = some x) : (l.take i).flatten.length + x.length ≤ l.flatten.length := by
  obtain ⟨hi, e⟩ := List.getElem?_eq_some_iff.mp h
  conv => rhs; rw [← List.take_append_drop i l, List.drop_eq_getElem_cons hi, e]
  simp
section
variable {prog : Program} {w : World} {A : Around} {R : Result → Shared → Prop} {I : Addr} {fp wr : List Addr} {P : Nat → Value → Prop} {St : Nat → Heap → Prop} {qs : List Addr} {vss : List (List Value)}
/-- the lists' sum, from list i on -/
theorem slLoop (W : Walks prog w A.in1 I fp wr qs.length P St) (hval : ∀ i v, P i v → ∃ p, qs[i]? = some p ∧ v = .ref p) (S : Addr) (hSf : ∀ b ∈ fp, b < S) (lim : vss.flatten.length ≤ sizeLine) :
    ∀ (k i : Nat) (s : Shared) (t : Addr) (c m : Nat), qs.length - i = k → i ≤ qs.length → St i s.heap → s.heap.get? S = some { cls := .type "list", dict := none, data := .seq #[.ref t] c, slots := #[] } →
    IsL s.heap t (vss.take i).flatten.toArray m → t ≠ S → t ∉ wr → (∀ (j : Nat) (p : Addr), qs[j]? = some p → p ≠ S ∧ p ∉ wr ∧ ∃ vs n, vss[j]? = some vs ∧ IsL s.heap p vs.toArray n) →
    (∀ h' tk t' m', (∀ b o, b ∉ wr → b ≠ S → s.heap.get? b = some o → h'.get? b = some o) → IsL h' t' (vss.take qs.length).flatten.toArray m' → (t' = t ∨ S < t') → R (.ok (.ret (.ref t'))) { s with heap := h', toks := tk }) →
    codeAny (model prog w) A (.builtin "sum.loop" ⟨[.ref I, .ref S, rawInt 2, rawInt 0], []⟩) R s := by
  have hSw : S ∉ wr := fun h => Nat.lt_irrefl _ (hSf S (W.sub _ h))
  intro k
  induction k with
  | zero =>
    intro i s t c m hk hi hst hS ht htS htw hq hR
    obtain rfl : i = qs.length := by omega
    refine codeAny_builtin PySem.F.entry_sum_loop ?_
    rw [Around.under_plainId PySem.F.plain_sum_loop _]
    show wpAny _ A.in1 (seqItems? (.ref S) >>= _) _ _ s
    refine wpAny_bind (wpAny_seqItems hS rfl ?_)
    show wpAny _ A.in1 (tryCatch (pyNext (.ref I)) _ >>= _) _ _ s
    refine wpAny_bind (wpAny_tryCatch (W.done s _ _ hst fun h' tk hk' => ?_))
    exact wpAny_pure (hR h' tk t m (fun b o hbw _ e => hk' b o hbw e) (hk' _ _ htw ht) (.inl rfl))
  | succ k ih =>
    intro i s t c m hk hi hst hS ht htS htw hq hR
    have hlt : i < qs.length := by omega
    refine codeAny_builtin PySem.F.entry_sum_loop ?_
    rw [Around.under_plainId PySem.F.plain_sum_loop _]
    show wpAny _ A.in1 (seqItems? (.ref S) >>= _) _ _ s
    refine wpAny_bind (wpAny_seqItems hS rfl ?_)
    show wpAny _ A.in1 (tryCatch (pyNext (.ref I)) _ >>= _) _ _ s
    refine wpAny_bind (wpAny_tryCatch (W.item i s _ _ hlt hst fun v h' tk hP hst' hk' => ?_))
    obtain ⟨p, ep, rfl⟩ := hval i v hP
    obtain ⟨pS, pw, vs, n, ev, hp⟩ := hq i p ep
    have hS' := hk' S _ hSw hS
    have ht' : IsL h' t _ m := hk' _ _ htw ht
    have hp' : IsL h' p _ n := hk' _ _ pw hp
    have hl := flat_le ev
    show wpAny _ A.in1 ((holding [Value.ref p] (binaryOp .Add (.ref t) (.ref p))).attempt >>= _) _ _ _
    refine wpAny_bind (wpAny_attempt (wpAny_holding (PySem.P.add_list (s := { s with heap := h', toks := tk }) ht' hp' ?_ (by rw [List.size_toArray, List.size_toArray]; omega))))
    have old : ∀ (b : Addr) (o : Obj), h'.get? b = some o → (h'.push { cls := .type "list", data := .seq ((vss.take i).flatten.toArray ++ vs.toArray) }).get? b = some o := fun b o e => Heap.get?_push_of_some _ e
    have hS2 := old _ _ hS'
    have nS : S < h'.objs.size := Heap.lt_size hS'
    show wpAny _ A.in1 (updateSeq S (fun _ => #[.ref h'.objs.size]) >>= _) _ _ _
    refine wpAny_bind (wpAny_updateSeq hS2 rfl ?_)
    have hS3 := Heap.get?_update_self (Obj.mapSeq fun _ => #[Value.ref h'.objs.size]) hS2 rfl
    refine wpAny_bind (wpAny_letGo ?_)
    have kept : ∀ (b : Addr) (o : Obj), b ≠ S → h'.get? b = some o → (((h'.push { cls := .type "list", data := .seq ((vss.take i).flatten.toArray ++ vs.toArray) }).update S (Obj.mapSeq fun _ => #[Value.ref h'.objs.size])).update S (Obj.mapSeq fun _ => #[Value.ref h'.objs.size])).get? b = some o := fun b o hb e =>
      (Heap.get?_update_other _ _ (Ne.symm hb)).trans ((Heap.get?_update_other _ _ (Ne.symm hb)).trans (old b o e))
    have nw : h'.objs.size ∉ wr := fun z => Nat.lt_asymm nS (hSf _ (W.sub _ z))
    refine wpAny_bind (wpAny_updateSeq hS3 rfl (wpAny_pure ⟨plainId_quiet PySem.F.plain_sum_loop _, ih (i + 1) _ h'.objs.size _ 0 (by omega) hlt (W.frame _ _ _ hst' fun b hb o e => kept b o (Nat.ne_of_lt (hSf b hb)) e) (Heap.get?_update_self _ hS3 rfl) ?_ (Nat.ne_of_gt nS) nw (fun j q ej => ?_) fun h'' tk'' t' m' hk'' hL ht'' => ?_⟩))
    · rw [take_flat ev]
      have e0 : ((vss.take i).flatten ++ vs).toArray = (vss.take i).flatten.toArray ++ vs.toArray := by simp
      rw [e0]
      refine (Heap.get?_update_other _ _ (Nat.ne_of_lt nS)).trans ((Heap.get?_update_other _ _ (Nat.ne_of_lt nS)).trans ?_)
      exact Heap.get?_push_size _ rfl
    · obtain ⟨z1, z2, vs', n', z3, z4⟩ := hq j q ej
      exact ⟨z1, z2, vs', n', z3, kept q _ z1 (hk' _ _ z2 z4)⟩
    · exact hR h'' tk'' t' m' (fun b o hb1 hb2 e => hk'' b o hb1 hb2 (kept b o hb2 (hk' b o hb1 e))) hL (.inr (ht''.elim (fun z => by rw [z]; exact nS) id))
end
section
variable {prog : Program} {w : World} {A : Around} {E : Value → Shared → Prop} {s : Shared}
theorem slCall {l b : Addr} {qs : List Addr} {vss : List (List Value)} {nb : Nat} {Q : Value → Shared → Prop} (hh : A.handled = none) (hl : s.heap.IsList l (qs.map Value.ref).toArray) (hb : IsL s.heap b #[] nb)
    (hq : ∀ (j : Nat) (p : Addr), qs[j]? = some p → ∃ vs n, vss[j]? = some vs ∧ IsL s.heap p vs.toArray n) (lim : vss.flatten.length ≤ sizeLine)
    (h : ∀ h' tk t' m', (∀ c o, s.heap.get? c = some o → h'.get? c = some o) → IsL h' t' (vss.take qs.length).flatten.toArray m' → (t' = b ∨ s.heap.objs.size ≤ t') → Q (.ref t') { s with heap := h', toks := tk }) :
    wpAny (model prog w) A (call (.builtin "sum") [.ref l, .ref b]) Q E s := by
  refine call_function_tree PySem.F.kind_sum PySem.F.plain_sum PySem.F.entry_sum (args_sum2 _ _) ?_
  unfold Builtin.«sum»
  simp only [List.length_cons, List.length_nil]
  rw [if_neg (by decide)]
  refine wpAny_bind (wpAny_of_eq (show Builtin.Builtins.bindParams "sum" ["start"] 0 ⟨[.ref b], []⟩ = pure [some (.ref b)] from rfl) ?_)
  have hlS : l < s.heap.objs.size := let ⟨o, ho, _⟩ := hl; Heap.lt_size ho
  have hne : l ≠ s.heap.objs.size := Nat.ne_of_lt hlS
  refine wpAny_bind (wpAny_pyIter_list hl ?_)
  have bS : b < s.heap.objs.size := Heap.lt_size hb
  have hb1 : IsL (s.heap.push { cls := .type "list_iterator", data := .fields #[.ref l, .int 0 0] }) b #[] nb := Heap.get?_push_of_some _ hb
  have tyb : Shared.TypeIs { s with heap := s.heap.push { cls := .type "list_iterator", data := .fields #[.ref l, .int 0 0] } } (.ref b) "list" := ⟨_, hb1, rfl⟩
  refine wpAny_bind (wpAny_pure ?_)
  simp only [List.forIn_cons, List.forIn_nil]
  refine wpAny_bind (wpAny_bind (wpAny_bind (wpAny_isInstance (T := "list") (b := false) tyb ls_str ?_)))
  simp only [Bool.false_eq_true, if_false]
  refine wpAny_pure (wpAny_bind (wpAny_bind (wpAny_isInstance (T := "list") (b := false) tyb ls_bytes ?_)))
  simp only [Bool.false_eq_true, if_false]
  refine wpAny_pure (wpAny_bind (wpAny_bind (wpAny_isInstance (T := "list") (b := false) tyb ls_bytearray ?_)))
  simp only [Bool.false_eq_true, if_false]
  refine wpAny_pure (wpAny_pure ?_)
  refine wpAny_bind (wpAny_newObj_type ?_)
  have hh3 : A.in1.handled = none := hh
  have W := Walks.list (prog := prog) (w := w) hh3 s.heap.objs.size l hne (qs.map Value.ref).toArray
  rw [show (qs.map Value.ref).toArray.size = qs.length by simp] at W
  have two : ∀ (c : Addr) (o : Obj) (x y : Obj), s.heap.get? c = some o → ((s.heap.push x).push y).get? c = some o := fun c o x y e => Heap.get?_push_of_some _ (Heap.get?_push_of_some _ e)
  have sz : (s.heap.push { cls := .type "list_iterator", data := .fields #[.ref l, .int 0 0] }).objs.size = s.heap.objs.size + 1 := Heap.size_push ..
  refine wpAny_pure ⟨plainId_quiet PySem.F.plain_sum_loop _, slLoop W (vss := vss) (fun i v e => ?_) _ (fun c hc => ?_) lim qs.length 0 _ b 0 nb (by omega) (Nat.zero_le _) ⟨⟨_, Heap.get?_push_of_some _ (Heap.get?_push_size _ rfl), rfl, rfl⟩, hl.push _ |>.push _⟩ (Heap.get?_push_size _ rfl) (by show IsL _ b #[] nb; exact two _ _ _ _ hb) ?_ ?_ (fun j p ej => ?_) fun h' tk t' m' hk hL ht => ?_⟩
  · rw [List.getElem?_toArray, List.getElem?_map] at e
    cases z : qs[i]? with
    | none => rw [z] at e; cases e
    | some p => rw [z] at e; cases e; exact ⟨p, rfl, rfl⟩
  · rw [sz]
    rcases List.mem_cons.mp hc with rfl | hc
    · exact Nat.lt_succ_self _
    · rw [List.mem_singleton.mp hc]; exact Nat.lt_succ_of_lt hlS
  · rw [sz]; exact Nat.ne_of_lt (Nat.lt_succ_of_lt bS)
  · exact fun z => by rw [List.mem_singleton] at z; exact Nat.lt_irrefl _ (z ▸ bS)
  · obtain ⟨vs, n, e1, e2⟩ := hq j p ej
    have pl := Heap.lt_size e2
    exact ⟨by rw [sz]; exact Nat.ne_of_lt (Nat.lt_succ_of_lt pl), fun z => by rw [List.mem_singleton] at z; exact Nat.lt_irrefl _ (z ▸ pl), vs, n, e1, two _ _ _ _ e2⟩
  · refine h h' tk t' m' (fun c o e => hk c o (fun z => ?_) ?_ (two _ _ _ _ e)) hL (ht.imp id fun z => ?_)
    · rw [List.mem_singleton] at z; exact Nat.lt_irrefl _ (z ▸ Heap.lt_size e)
    · rw [sz]; exact Nat.ne_of_lt (Nat.lt_succ_of_lt (Heap.lt_size e))
    · rw [sz] at z; exact Nat.le_of_lt (Nat.lt_of_succ_lt z)
end
end K25S
namespace K25
open PySem PySem.Spec PyProof.Rows L2
/-! ### sum(xs, []) -/
theorem vss_of {P : Program} {w : World} {H : Hp} {h : Heap} (ok : L2.HOk P w H h) {qs : List Addr} {yss : List (List V)} (hp : Paired (fun q ys => H q = some (.lst ys)) qs yss) :
    ∃ vss : List (List Value), (∀ (j : Nat) (p : Addr), qs[j]? = some p → ∃ vs n, vss[j]? = some vs ∧ IsL h p vs.toArray n) ∧ Vals yss.flatten vss.flatten ∧ vss.length = qs.length := by
  induction hp with
  | nil => exact ⟨[], fun j p e => by simp at e, .nil, rfl⟩
  | @cons q ys l m r _ ih =>
    obtain ⟨vss, h1, h2, h3⟩ := ih
    obtain ⟨_, its, n, rv, e⟩ := ok _ _ r
    refine ⟨its :: vss, fun j p ej => ?_, ?_, by rw [List.length_cons, List.length_cons, h3]⟩
    · cases j with
      | zero =>
        rw [List.getElem?_cons_zero] at ej
        cases ej
        exact ⟨its, n, rfl, e⟩
      | succ j => exact h1 j p (by simpa using ej)
    · rw [List.flatten_cons, List.flatten_cons]
      exact rv.append h2
def rSumL (K : PySem.W.Frag) : List V → Hp → VK → Prop := fun us H Q => ∃ (a b : Addr) (qs : List Addr) (yss : List (List V)), us = [.ref a, .ref b] ∧ SqL K H a (qs.map V.ref) ∧ H b = some (.lst []) ∧ Paired (fun q ys => H q = some (.lst ys)) qs yss ∧ yss.flatten.length ≤ sizeLine ∧
  ∀ p H', Same H H' → (p = b ∨ H p = none) → H' p = some (.lst yss.flatten) → Q (.ref p) H'
theorem cr_sumLK {X : Cx} {K : PySem.W.Frag} (hc : X.calm = true) (hK : X.K = K) : CallR X (.builtin "sum") (rSumL K) := by
  subst hK
  intro pins s σ H xs us Q I r h
  obtain ⟨a, b, qs, yss, rfl, ha, hb, hp, hz, q⟩ := h
  obtain ⟨u, u', rfl, ru, ru'⟩ := vals2 r
  cases ru
  cases ru'
  obtain ⟨its, rv, pl, _⟩ := I.list ha
  have ei := refs_at rv
  subst ei
  obtain ⟨vss, h1, h2, h3⟩ := vss_of I.hok hp
  obtain ⟨_, itb, n, rb, eb⟩ := I.hok _ _ hb
  cases rb
  refine K25S.slCall (I.ok.hd hc) pl.isList eb h1 (by rw [← h2.length]; exact hz) fun h' tk t' m' hk hL ht => ?_
  rw [List.take_of_length_le (by rw [h3]; exact Nat.le_refl _)] at hL
  rcases ht with rfl | ht
  · have e2 := hk _ _ eb
    have e3 : some _ = some _ := e2.symm.trans hL
    simp only [Option.some.injEq, Obj.mk.injEq, Data.seq.injEq, true_and, and_true] at e3
    have e4 : vss.flatten = [] := by
      have := congrArg Array.toList e3.1
      simpa using this.symm
    rw [e4] at h2
    have e5 : yss.flatten = [] := by
      generalize yss.flatten = z at h2
      cases h2
      rfl
    exact ⟨.ref t', H, I.kept hk, rfl, q t' H (Same.refl H) (.inl rfl) (by rw [e5]; exact hb)⟩
  · exact ⟨.ref t', upd H t' (.lst yss.flatten), I.laid (t' := tk) hk ht ⟨hz, vss.flatten, m', h2, hL⟩, rfl, q t' _ (Same.put (I.hok.fresh ht)) (.inr (I.hok.fresh ht)) upd_same⟩
/-! ### d.update(e) -/
def tDUpd (td tx : TE) : TE := fun σ H Q => td σ H fun x H1 => ∃ a, x = .ref a ∧ IsD H1 a ∧ tx σ H1 fun y H2 => ∃ b kvs more, y = .ref b ∧ a ≠ b ∧ H2 a = some (.dK kvs) ∧ Rd H2 b (.dK more) ∧ kvs.length + more.length ≤ sizeLine ∧ Q .non (upd H2 a (.dK (mergeK kvs more)))
theorem pe_dupd {X : Cx} {o e : Expr} {apos cpos : Pos} {td ty : TE} (ho : PE X o td) (he : PE X e ty) (m : M1 X o "update" apos e cpos) : PE X (.Call (.Attribute o "update" apos) [e] [] cpos) (tDUpd td ty) := by
  refine ⟨fun pins s σ H Q I h => ?_⟩
  refine wpAny_Call_method m.base m.few m.line PySem.F.plainAttrs_dict PySem.F.slot_dict_update PySem.F.type_dict_update (thn (ho.run pins s σ H _ I h) fun u s1 ⟨x, H1, I1, rx, a, ex, d, q1⟩ => ?_)
  subst ex
  obtain rfl : u = Value.ref a := rx
  obtain ⟨t1, t2, _⟩ := isD_at I1 d
  refine ⟨t1, t2, ?_⟩
  rw [m.trees]
  refine Calls.callWith_builtin rfl (Calls.evalArgs_plain (Calls.spliced_cons (thn (he.run pins s1 σ H1 _ I1 q1) fun iv s2 ⟨y, H2, I2, ry, b, kvs, more, ey, ne, ea, eb, hl, q2⟩ => Calls.spliced_nil ?_)))
  subst ey
  obtain rfl : iv = Value.ref b := ry
  obtain ⟨z1, y1, v1, r1, d1⟩ := dk_rd I2.hok (.inl ea)
  obtain ⟨z2, y2, v2, r2, d2⟩ := dk_rd I2.hok eb
  refine call_meetsIn PySem.F.slot_dict_update d1.typeIs PySem.F.entry_dict_update (PySem.F.args_dict_update_2 _ _) (meets_dict_update (mixKind X.prog X.w) a b ne y2)
    ⟨v1, v2, d1, d2, by rw [← r1.length, ← r2.length]; exact hl, fun h' hm _ hs => ?_⟩
  have there : ∃ o, h'.get? a = some o := let ⟨o, _, _, ho, _⟩ := hm; ⟨o, ho⟩
  exact ⟨.non, _, d_write I2 (by rw [ea]; exact True.intro) hs there (dk_new (Nat.le_trans (length_mergeK more kvs) hl) y1 (KV.merge r2 r1) hm), rfl, q2⟩
/-! ### repr -/
def innO (tup : Bool) (x : List Str) : HO := match tup with
  | true => .tup (x.map V.str)
  | false => .lst (x.map V.str)
/-- a list of lists, of tuples, of texts -/
def LtV (tup : Bool) : RelD (List (List Str)) := fun v l G => ∃ p vs, v = .ref p ∧ G p = some (.lst vs) ∧ All2 (fun v x => ∃ a, v = .ref a ∧ G a = some (innO tup x)) vs l
structure Sml (l : List (List Str)) : Prop where
  len : l.length ≤ 200
  inn : ∀ x ∈ l, x.length ≤ 20
  nm : ∀ x ∈ l, ∀ s ∈ x, Nm s
def dOf (tup : Bool) (x : List Str) : PyData := match tup with
  | true => .tuple (x.map .str)
  | false => .list (x.map .str)
def txt (tup : Bool) (l : List (List Str)) : Str := PyData.shown (.list (l.map (dOf tup)))
theorem all_shown (ds : List PyData) : PyData.shownAll ds = ds.map PyData.shown := by
  induction ds with
  | nil => rfl
  | cons d ds ih => rw [List.map_cons, ← ih]; rfl
theorem sum_le {α : Type} (f : α → Nat) (B : Nat) (l : List α) (h : ∀ x ∈ l, f x ≤ B) : (l.map f).sum ≤ B * l.length := by
  induction l with
  | nil => simp
  | cons x l ih =>
    have h1 := h x List.mem_cons_self
    have h2 := ih fun y hy => h y (List.mem_cons_of_mem _ hy)
    rw [List.map_cons, List.sum_cons, List.length_cons, Nat.mul_succ]
    omega
theorem txt_str {s : Str} (h : Nm s) : (reprText s).length ≤ 82 := by
  have := PySem.StrLaws.reprText_len s fun c hc => Nat.lt_of_le_of_lt (h.2.2 c hc).2 (by decide)
  have := h.2.1
  omega
theorem txt_inn (tup : Bool) (x : List Str) (hl : x.length ≤ 20) (hn : ∀ s ∈ x, Nm s) : (PyData.shown (dOf tup x)).length ≤ 2000 := by
  have h1 : ((x.map fun s => PyData.shown (.str s)).map (·.length)).sum ≤ 82 * x.length := by
    rw [List.map_map]
    exact sum_le _ 82 x fun s hs => txt_str (hn s hs)
  have h2 : (x.map fun s => PyData.shown (.str s)).length = x.length := List.length_map ..
  cases tup with
  | true =>
    have e : PyData.shown (dOf true x) = tupleText (x.map fun s => PyData.shown (.str s)) := by
      show tupleText (PyData.shownAll (x.map .str)) = _
      rw [all_shown, List.map_map]; rfl
    have := tupleText_len_le (x.map fun s => PyData.shown (.str s))
    rw [e]; omega
  | false =>
    have e : PyData.shown (dOf false x) = listText (x.map fun s => PyData.shown (.str s)) := by
      show listText (PyData.shownAll (x.map .str)) = _
      rw [all_shown, List.map_map]; rfl
    have := listText_len_le (x.map fun s => PyData.shown (.str s))
    rw [e]; omega
theorem txt_len {tup : Bool} {l : List (List Str)} (h : Sml l) : (txt tup l).length ≤ sizeLine := by
  have e : txt tup l = listText ((l.map (dOf tup)).map PyData.shown) := by
    show listText (PyData.shownAll (l.map (dOf tup))) = _
    rw [all_shown]
  have h1 : (((l.map (dOf tup)).map PyData.shown).map (·.length)).sum ≤ 2000 * l.length := by
    rw [List.map_map, List.map_map]
    exact sum_le _ 2000 l fun x hx => txt_inn tup x (h.inn x hx) (h.nm x hx)
  have := listText_len_le ((l.map (dOf tup)).map PyData.shown)
  have h2 : ((l.map (dOf tup)).map PyData.shown).length = l.length := by rw [List.length_map, List.length_map]
  have h3 := h.len
  rw [e, sizeLine_eq]
  omega
theorem reads_strs {h : Heap} : ∀ {x : List Str} {us : List Value}, Vals (x.map V.str) us → ReadsAll h us (x.map .str) []
  | [], us, r => by cases r; exact .nil
  | s :: x, us, r => by
    rw [List.map_cons] at r
    cases r with
    | cons r1 r2 =>
      obtain ⟨t, rfl⟩ := r1
      exact .cons (as := []) (bs := []) (.str s t) (reads_strs r2)
theorem reads_inn {P : Program} {w : World} {H : Hp} {h : Heap} (ok : L2.HOk P w H h) {tup : Bool} {x : List Str} {a : Addr} (e : H a = some (innO tup x)) : ∃ as, Reads h (.ref a) (dOf tup x) as := by
  cases tup with
  | true =>
    obtain ⟨_, its, rv, o, ho, hc, n, hd⟩ := ok _ _ e
    exact ⟨_, .tuple ho hc hd (reads_strs (by simpa using rv))⟩
  | false =>
    obtain ⟨_, its, n, rv, ho⟩ := ok _ _ e
    exact ⟨_, .list ho rfl rfl (reads_strs (by simpa using rv))⟩
theorem reads_all {P : Program} {w : World} {H : Hp} {h : Heap} (ok : L2.HOk P w H h) {tup : Bool} {vs : List V} {l : List (List Str)} (al : All2 (fun v x => ∃ a, v = .ref a ∧ H a = some (innO tup x)) vs l) : ∀ {us : List Value}, Vals vs us → ∃ as, ReadsAll h us (l.map (dOf tup)) as := by
  induction al with
  | nil => intro us r; cases r; exact ⟨_, .nil⟩
  | @cons v x vs l r _ ih =>
    intro us rv
    obtain ⟨a, rfl, e⟩ := r
    cases rv with
    | cons r1 r2 =>
      cases r1
      obtain ⟨as, h1⟩ := reads_inn ok e
      obtain ⟨bs, h2⟩ := ih r2
      exact ⟨_, .cons h1 h2⟩
theorem dOf_ok (tup : Bool) (x : List Str) : (dOf tup x).showable = true ∧ (dOf tup x).hasDict = false ∧ (dOf tup x).depth ≤ 1 := by
  have h1 : ∀ x : List Str, PyData.showableAll (x.map .str) = true := fun x => by
    induction x with
    | nil => rfl
    | cons s x ih => show (true && PyData.showableAll (x.map .str)) = true; rw [ih]; rfl
  have h2 : ∀ x : List Str, PyData.hasDictAll (x.map .str) = false := fun x => by
    induction x with
    | nil => rfl
    | cons s x ih => show (false || PyData.hasDictAll (x.map .str)) = false; rw [ih]; rfl
  have h3 : ∀ x : List Str, PyData.depthAll (x.map .str) = 0 := fun x => by
    induction x with
    | nil => rfl
    | cons s x ih => show max 0 (PyData.depthAll (x.map .str)) = 0; rw [ih]; rfl
  cases tup with
  | true => exact ⟨h1 x, h2 x, by show PyData.depthAll (x.map .str) + 1 ≤ 1; rw [h3]; exact Nat.le_refl _⟩
  | false => exact ⟨h1 x, h2 x, by show PyData.depthAll (x.map .str) + 1 ≤ 1; rw [h3]; exact Nat.le_refl _⟩
theorem dAll_ok (tup : Bool) (l : List (List Str)) : PyData.showableAll (l.map (dOf tup)) = true ∧ PyData.hasDictAll (l.map (dOf tup)) = false ∧ PyData.depthAll (l.map (dOf tup)) ≤ 1 := by
  induction l with
  | nil => exact ⟨rfl, rfl, Nat.zero_le _⟩
  | cons x l ih =>
    obtain ⟨h1, h2, h3⟩ := dOf_ok tup x
    refine ⟨?_, ?_, ?_⟩
    · show ((dOf tup x).showable && PyData.showableAll (l.map (dOf tup))) = true
      rw [h1, ih.1]; rfl
    · show ((dOf tup x).hasDict || PyData.hasDictAll (l.map (dOf tup))) = false
      rw [h2, ih.2.1]; rfl
    · show max (dOf tup x).depth (PyData.depthAll (l.map (dOf tup))) ≤ 1
      exact Nat.max_le.mpr ⟨h3, ih.2.2⟩
def rReprD : List V → Hp → VK → Prop := fun us H Q => (∃ b, us = [.bl b] ∧ Q (.str (if b then "True" else "False")) H) ∨ ∃ v l tup, us = [v] ∧ LtV tup v l H ∧ Sml l ∧ Q (.str (txt tup l)) H
theorem cr_reprG {X : Cx} (hg : X.A.guards = some []) (hu : X.A.units + 64 < cLine) : CallR X (.builtin "repr") rReprD := by
  intro pins s σ H xs us Q I r h
  rcases h with ⟨b, rfl, q⟩ | ⟨v, l, tup, rfl, hv, sm, q⟩
  · obtain ⟨u, rfl, ru⟩ := vals1 r
    obtain rfl : u = Value.bool b := ru
    exact PySem.P.repr_of_bool ⟨.str _, H, I.tok _, ⟨_, rfl⟩, q⟩
  · obtain ⟨p, vs, rfl, hp, al⟩ := hv
    obtain ⟨u, rfl, ru⟩ := vals1 r
    obtain rfl : u = Value.ref p := ru
    obtain ⟨_, its, n, rv, ho⟩ := I.hok _ _ hp
    obtain ⟨as, ra⟩ := reads_all I.hok al rv
    obtain ⟨d1, d2, d3⟩ := dAll_ok tup l
    refine repr_of_reads' (h₀ := s.heap) (.list ho rfl rfl (by simpa using ra)) d1 (fun z => absurd z (by rw [show PyData.hasDict (.list (l.map (dOf tup))) = PyData.hasDictAll (l.map (dOf tup)) from rfl, d2]; simp)) hg ?_ (fun _ _ e => e) (fun h' u tk hk => ⟨.str _, H, I.kept hk, ⟨_, rfl⟩, q⟩) (txt_len sm)
    show X.A.units + (PyData.depthAll (l.map (dOf tup)) + 1 + 1) < cLine
    omega
end K25

/-! F29 -/
namespace K25
open PySem PySem.Spec PyProof.Rows L2
/-! ### equal and printed alike -/
theorem lt_mono (tup : Bool) : MonD (LtV tup) := fun v l G G' e ⟨p, vs, h1, h2, h3⟩ => ⟨p, vs, h1, e _ _ h2, h3.imp fun _ _ _ _ ⟨a, z1, z2⟩ => ⟨a, z1, e _ _ z2⟩⟩
theorem pair_self {E : V → V → Prop} : ∀ {xs : List V}, (∀ x ∈ xs, E x x) → Paired E xs xs
  | [], _ => .nil
  | x :: xs, h => .cons (h x List.mem_cons_self) (pair_self fun y hy => h y (List.mem_cons_of_mem _ hy))
theorem pair_lt {K : PySem.W.Frag} {H : Hp} {tup : Bool} {l : List (List Str)} {vs : List V} (h : All2 (fun v x => ∃ a, v = .ref a ∧ H a = some (innO tup x)) vs l) : ∀ {us : List V}, All2 (fun v x => ∃ a, v = .ref a ∧ H a = some (innO tup x)) us l → Paired (EqT K H 2) vs us := by
  induction h with
  | nil => intro us h; cases h; exact .nil
  | @cons v x vs l r _ ih =>
    intro us h
    cases h with
    | cons r2 h2 =>
      refine .cons (.inr (.inr ?_)) (ih h2)
      obtain ⟨a, rfl, ha⟩ := r
      obtain ⟨b, rfl, hb⟩ := r2
      have self : Paired (EqT K H 1) (x.map V.str) (x.map V.str) := pair_self fun y hy => by
        obtain ⟨s, _, rfl⟩ := List.mem_map.mp hy
        exact .inl ⟨rfl, rfl⟩
      cases tup with
      | true => exact .inr (.inl ⟨a, b, _, _, rfl, rfl, SqT.of ha, SqT.of hb, self⟩)
      | false => exact .inl ⟨a, b, _, _, rfl, rfl, SqL.of ha, SqL.of hb, self⟩
theorem inn_sub {G H : Hp} (s : Sub G H) {tup : Bool} {vs : List V} {l : List (List Str)} (h : All2 (fun v x => ∃ a, v = .ref a ∧ G a = some (innO tup x)) vs l) : All2 (fun v x => ∃ a, v = .ref a ∧ H a = some (innO tup x)) vs l := h.imp fun v x _ _ ⟨a, z1, z2⟩ => ⟨a, z1, by
  cases tup with
  | true => exact s.tup z2
  | false => exact s.lst z2⟩
section
variable {P : Program} {w : World} {K : PySem.W.Frag} {mg : Str → Option Value} {base : Heap}
def spAlike : Sp := fun vs H Q _ => ∃ x y G, vs = [x, y] ∧ Sub G H ∧ ((∃ b, x = .bl b ∧ y = .bl b) ∨ ∃ l tup, LtV tup x l G ∧ LtV tup y l G ∧ Sml l) ∧ ∀ H', Same H H' → Q (.bl true) H'
abbrev N_w_alike : List Str := ["_law_found", "_law_due"]
theorem sc_w_alike : FnScope N_w_alike ["_law_found", "_law_due"] (defScope s_w_alike) := ⟨rfl, rfl, rfl, by decide +kernel, rfl, by decide +kernel, by decide +kernel⟩
-- slots: 0 _law_found, 1 _law_due
theorem c_w_alike (T : Tx K mg) : CalG P w K mg base 1 "_law_alike" spAlike := by
  refine ⟨_, _, ["_law_found", "_law_due"], fn_bodyG T.f_w_alike sc_w_alike (fun vs H Q E h => by obtain ⟨_, _, _, rfl, _⟩ := h; rfl) (fun cdv A outer s H vs Q E hg hr h => ?_), T.g_w_alike, T.f_w_alike.kp, T.f_w_alike.bindsN fun _ _ _ _ _ _ us hl => match us, hl with | [_, _], _ => rfl⟩
  obtain ⟨x, y, G, rfl, sG, hxy, k⟩ := h
  have hu := hu_of hr
  refine ⟨_,
    (pss_one (ps_ret (pe_and (pe_cmpR (OpR.or (op_eqTK rfl hr.units) op_eq) (pv 0) (pv 1) (nomark _)) (pe_one (pe_cmpR op_eq (pe_callB (cr_reprG hg hr.units) (by rfl) T.b_repr (by decide +kernel) (pa_cons (pv 0) pa_nil)) (pe_callB (cr_reprG hg hr.units) (by rfl) T.b_repr (by decide +kernel) (pa_cons (pv 1) pa_nil)) (nomark _)))))), ?_⟩
  rcases hxy with ⟨b, rfl, rfl⟩ | ⟨l, tup, hx, hy, sm⟩
  · have rp : ∀ {σ : L2.St} {i : Nat}, σ[i]? = some (some (.bl b)) → Gv (tCB rReprD (tCons (tVar i) tNil)) σ G (.str (if b then "True" else "False")) := fun h => gv_cb (ga_cons (gv_var h) ga_nil) fun H s Q q => .inl ⟨b, rfl, q H (Same.refl H)⟩
    exact s_ret sG (gv_eq (by simp) (gv_andV (gv_op (gv_var rfl) (gv_var rfl) (rv_or2 (rv_eq rfl))) fun _ => gv_op (rp rfl) (rp rfl) (rv_eq rfl))) k
  · have rp : ∀ {σ : L2.St} {i : Nat} {v : V}, σ[i]? = some (some v) → LtV tup v l G → Gv (tCB rReprD (tCons (tVar i) tNil)) σ G (.str (txt tup l)) := fun h hv => gv_cb (ga_cons (gv_var h) ga_nil) fun H s Q q => .inr ⟨_, l, tup, rfl, by
      obtain ⟨p, vs, rfl, hp, al⟩ := hv
      exact ⟨p, vs, rfl, s.lst hp, inn_sub s al⟩, sm, q H (Same.refl H)⟩
    refine s_ret sG (gv_eq (by simp) (gv_andV (b := true) (gv_op (gv_var rfl) (gv_var rfl) (rv_or1 fun H s Q q => ?_)) fun _ => gv_op (rp rfl hx) (rp rfl hy) (rv_eq rfl))) k
    obtain ⟨p, vs, rfl, hp, al⟩ := hx
    obtain ⟨p', us, rfl, hp', al'⟩ := hy
    exact ⟨2, by omega, .inl ⟨p, p', vs, us, rfl, rfl, SqL.of (s.lst hp), SqL.of (s.lst hp'), pair_lt (inn_sub s al) (inn_sub s al')⟩, q H (Same.refl H)⟩
end
end K25

/-! K22 -/
/-! K22: rows as the law holds them. -/
namespace K25
open PySem PySem.Spec PyProof.Rows L2
section
variable {M : List Addr} {G G' H H' Gb : Hp}
/-- what was told for a while is told no more -/
theorem Stp.unt (st : Stp G H G' H') (hM : ∀ m ∈ M, G m = none) : Stp G H (K25.wo M G') H' :=
  ⟨fun a o h => by
    have n : a ∉ M := fun z => by rw [hM a z] at h; cases h
    rw [wo_out n]; exact st.ex a o h, fun a o h => by
    by_cases z : a ∈ M
    · rw [wo_in z] at h; cases h
    · rw [wo_out z] at h; exact st.sub a o h, st.keep, fun a h1 h2 => by
    by_cases z : a ∈ M
    · exact wo_in z
    · rw [wo_out z]; exact st.new a h1 h2⟩
theorem Stp.untel (st : Stp (tel G H M) H G' H') (hM : ∀ m ∈ M, G m = none) : Stp G H (K25.wo M G') H' :=
  ⟨fun a o h => by
    have n : a ∉ M := fun z => by rw [hM a z] at h; cases h
    rw [wo_out n]
    refine st.ex a o ?_
    unfold tel
    rw [if_neg n]; exact h, fun a o h => by
    by_cases z : a ∈ M
    · rw [wo_in z] at h; cases h
    · rw [wo_out z] at h; exact st.sub a o h, st.keep, fun a h1 h2 => by
    by_cases z : a ∈ M
    · exact wo_in z
    · rw [wo_out z]
      refine st.new a ?_ h2
      unfold tel
      rw [if_neg z]; exact h1⟩
theorem same_wo (e : Same Gb G') (hM : ∀ m ∈ M, Gb m = none) : Same Gb (wo M G') := fun a o h => by
  have n : a ∉ M := fun z => by rw [hM a z] at h; cases h
  rw [wo_out n]; exact e a o h
end
section
variable {K : PySem.W.Frag} {σ : L2.St} {G H : Hp} {D : Ends} {rest : TS} {te ta tb : TE} {Φ Ψ : V → Hp → Prop} {a : Addr} {xs ys zs : List V} {lo hi : TO} {l u : Option Int} {i j : Nat}
/-- a new pair, its items perhaps new, is taken apart -/
theorem q_twoX {Θ : V → V → Hp → Prop} (s : Sub G H) (h : Ge te σ G fun v G' => ∃ p u w, v = .ref p ∧ G' p = some (.tup [u, w]) ∧ Θ u w G') (k : ∀ u w G' H', Stp G H G' H' → Θ u w G' → rest D ((σ.set i (some u)).set j (some w)) H') : tSeq (tAsg te (gTup K 2 (gCons (gName i) (gCons (gName j) gNil)))) rest D σ H :=
  h H s trivial _ fun v G1 H1 st f => by
    obtain ⟨p, u, w, rfl, hp, fu⟩ := f
    exact ⟨p, [u, w], rfl, SqT.of (st.sub.tup hp), rfl, _, _, rfl, _, _, rfl, rfl, k u w G1 H1 st fu⟩
theorem ge_catX (ha : Ge ta σ G Ψ) (hb : ∀ v G', Same G G' → Ψ v G' → ∃ p xs zs, v = .ref p ∧ G' p = some (.lst xs) ∧ Gls tb σ G' zs ∧ xs.length + zs.length ≤ 100000 ∧ ∀ p2, G' p2 = none → Φ (.ref p2) (upd G' p2 (.lst (xs ++ zs)))) : Ge (tOp rCat ta tb) σ G Φ := fun H s c Q q =>
  ha H s c _ fun v G1 H1 s1 f => by
    obtain ⟨p, xs, zs, rfl, hp, hz, hl, k⟩ := hb v G1 s1.ex f
    refine hz H1 s1.sub _ fun b H2 e2 hb0 hb2 => ⟨p, b, xs, zs, rfl, rfl, e2 _ _ (s1.sub.lst hp), hb2, by rw [sizeLine_eq]; omega, fun p2 hp2 => ?_⟩
    have st := s1.grow e2
    exact q _ _ _ (st.lay hp2) (k p2 (st.sub.non hp2))
theorem gl_catN (ha : Gls ta σ G xs) (hb : Gv tb σ G (.ref a)) (h : G a = some (.lst zs)) (hl : xs.length + zs.length ≤ 100000) : Gls (tOp rCat ta tb) σ G (xs ++ zs) := fun H s Q q =>
  ha H s _ fun p H1 e1 hp hp1 => hb H1 (s.same e1) _ fun H2 e2 => ⟨p, a, xs, zs, rfl, rfl, e2 _ _ hp1, ((s.same e1).same e2).lst h, by rw [sizeLine_eq]; omega, fun p2 hp2 => q p2 _ ((e1.trans e2).trans (Same.put hp2)) ((e1.trans e2).free hp2) upd_same⟩
theorem gl_catNN (ha : Gls ta σ G xs) (hb : Gls tb σ G zs) (hl : xs.length + zs.length ≤ 100000) : Gls (tOp rCat ta tb) σ G (xs ++ zs) := fun H s Q q =>
  ha H s _ fun p H1 e1 hp hp1 => hb H1 (s.same e1) _ fun b H2 e2 hb0 hb2 => ⟨p, b, xs, zs, rfl, rfl, e2 _ _ hp1, hb2, by rw [sizeLine_eq]; omega, fun p2 hp2 => q p2 _ ((e1.trans e2).trans (Same.put hp2)) ((e1.trans e2).free hp2) upd_same⟩
theorem gl_slX (h : Gv te σ G (.ref a)) (ha : G a = some (.lst xs)) (hlo : ∀ H, Sub G H → ∀ Q, (∀ H', Same H H' → Q l H') → lo σ H Q) (hhi : ∀ H Q, Q u H → hi σ H Q) (e : cutV xs l u = ys) :
    Gls (tSl (rSlL K) te lo hi) σ G ys := fun H s Q q =>
  h H s _ fun H1 e1 => hlo H1 (s.same e1) _ fun H2 e2 => hhi H2 _ ⟨a, xs, rfl, SqL.of (((s.same e1).same e2).lst ha), fun p hp => by rw [e]; exact q p _ ((e1.trans e2).trans (Same.put hp)) ((e1.trans e2).free hp) upd_same⟩
theorem to_gv {n : Int} (h : Gv te σ G (.int n)) : ∀ H, Sub G H → ∀ Q, (∀ H', Same H H' → Q (some n) H') → tPart te σ H Q := fun H s Q q => h H s _ fun H1 e1 => ⟨n, rfl, q H1 e1⟩
theorem cut_last {α : Type} (f : α → V) (xs : List α) (h : xs ≠ []) : cutV (xs.map f) (some ((xs.length : Int) - 1)) none = (xs.drop (xs.length - 1)).map f := by
  unfold cutV
  have hl : 0 < xs.length := List.length_pos_iff.mpr h
  have e : HT.sIx (xs.map f).length 0 (some ((xs.length : Int) - 1)) = xs.length - 1 := by
    rw [List.length_map]
    unfold HT.sIx
    simp
    try omega
  have e2 : HT.sIx (xs.map f).length (xs.map f).length none = (xs.map f).length := rfl
  rw [e, e2, List.map_drop]
  exact List.take_of_length_le (by rw [List.length_drop]; omega)
theorem zip_self {α : Type} {z : α} : ∀ {zs : List α}, z ∈ zs → (z, z) ∈ zs.zip zs
  | _ :: zs, h => by
    rw [List.zip_cons_cons]
    rcases List.mem_cons.mp h with rfl | h
    · exact List.mem_cons_self
    · exact List.mem_cons_of_mem _ (zip_self h)
theorem adBy_at {α : Type} {zs : List α} {n : α → Str} {f : α → Addr} (nd : (zs.map n).Nodup) {z : α} (hz : z ∈ zs) : adBy (zs.map n) (zs.map f) (n z) = f z := by
  unfold adBy
  have : (n z, f z) ∈ (zs.map n).zip (zs.map f) := by
    rw [List.zip_map]
    exact List.mem_map.mpr ⟨(z, z), zip_self hz, rfl⟩
  rw [valD_of (by rw [List.map_fst_zip (by simp)]; exact nd) this]
  rfl
end
/-! ### rows out of the law -/
structure RowsX (G D : Hp) (d : Addr) (R : Rws) (pa ra : Str → Addr) : Prop where
  dict : D d = some (.dK (R.map fun q => (Sum.inr q.1, V.ref (pa q.1))))
  tup : ∀ q ∈ R, G (pa q.1) = some (.tup [.str q.2.1, .ref (ra q.1)])
  row : ∀ q ∈ R, D (ra q.1) = some (.dK (rowK q.2.2))
structure RowsO (H0 G : Hp) (d : Addr) (ids : List Str) (ra : Str → Addr) : Prop where
  d0 : H0 d = none
  dg : G d = none
  r0 : ∀ i ∈ ids, H0 (ra i) = none
  rg : ∀ i ∈ ids, G (ra i) = none
  inj : ∀ i ∈ ids, ∀ j ∈ ids, ra i = ra j → i = j
  ne : ∀ i ∈ ids, ra i ≠ d
structure RIt where
  n : Str
  h : Str
  q : Addr
  t : Addr
  r : Addr
def RItAt (homes : List Str) (H0 G H : Hp) (z : RIt) : Prop := G z.q = some (.tup [.str z.n, .ref z.t]) ∧ G z.t = some (.tup [.str z.h, .ref z.r]) ∧ z.h ∈ homes ∧ H0 z.r = none ∧ G z.r = none ∧ H z.r = some (.dK [])
section
variable {K : PySem.W.Frag} {σ : L2.St} {G H : Hp} {ns homes : List Str} {j : Nat} {wi : TI} {g : TG} {tt : TT} {te : TE} {vs : List Nat} {pf : Str → Bool}
/-- [(n, (home, {})) for n in ns if ..]: dicts of one's own -/
theorem e_rows (hi : GI Fr0 wi g σ G ns (upN j V.str)) (hz : ns.length ≤ 100000) (hw : ∀ d ∈ ns, wipe (upN j V.str d (wipe σ vs)) vs = wipe σ vs)
    (ht : ∀ d ∈ ns, ∀ G', Same G G' → Gt tt (upN j V.str d (wipe σ vs)) G' (pf d))
    (he : ∀ d ∈ ns, ∀ G', Same G G' → ∀ H, Sub G' H → ∀ Q : VK, (∀ h q t r H', Same H H' → H q = none → H t = none → H r = none → H' q = some (.tup [.str d, .ref t]) → H' t = some (.tup [.str h, .ref r]) → H' r = some (.dK []) → h ∈ homes → Q (.ref q) H') → te (upN j V.str d (wipe σ vs)) H Q)
    (sG : Sub G H) {Q : VK} (q : ∀ D (zs : List RIt) G' H', Stp G H G' H' → H D = none → G' D = none → H' D = some (.lst (zs.map fun z => V.ref z.q)) → zs.map (·.n) = ns.filter pf → (∀ z ∈ zs, RItAt homes H G' H' z ∧ z.r ≠ D) → (zs.map (·.r)).Nodup → Q (.ref D) H') : tLc wi g tt te vs σ H Q :=
  hi H sG trivial _ fun J G1 H1 st1 wk D hD => by
    refine ⟨fun i m H2 => m = ns.length - i ∧ i ≤ ns.length ∧ ∃ G2, ∃ zs : List RIt, Stp G1 H1 G2 H2 ∧ G2 D = none ∧ H2 D = some (.lst (zs.map fun z => V.ref z.q)) ∧ zs.map (·.n) = (ns.take i).filter pf ∧ (∀ z ∈ zs, RItAt homes H1 G2 H2 z ∧ z.r ≠ D) ∧ (zs.map (·.r)).Nodup,
      ⟨ns.length, by simp, Nat.zero_le _, G1, [], (Stp.refl st1.sub).hide hD, st1.sub.non hD, upd_same, rfl, fun z hz => (nomatch hz), List.nodup_nil⟩, ?_⟩
    rintro i m H2 ⟨rfl, hil, G2, zs, st, gD, hD2, hn, al, nd⟩
    by_cases hlt : i < ns.length
    · have hd : ns[i]? = some ns[i] := List.getElem?_eq_getElem hlt
      generalize ns[i] = d at hd
      have dm : d ∈ ns := List.mem_of_getElem? hd
      obtain ⟨go, turn⟩ := wk.go H2 (st.sub.less st.ex) (Same.frz st.keep) i d hd
      refine .inr ⟨go, fun H' => ∃ m', m' < ns.length - i ∧ (m' = ns.length - (i + 1) ∧ i + 1 ≤ ns.length ∧ ∃ G2, ∃ zs : List RIt, Stp G1 H1 G2 H' ∧ G2 D = none ∧ H' D = some (.lst (zs.map fun z => V.ref z.q)) ∧ zs.map (·.n) = (ns.take (i + 1)).filter pf ∧ (∀ z ∈ zs, RItAt homes H1 G2 H' z ∧ z.r ≠ D) ∧ (zs.map (·.r)).Nodup), fun H' z => z, fun x H3 y => ?_⟩
      obtain ⟨e3, asg⟩ := turn x H3 y
      refine asg (wipe σ vs) _ fun H4 e4 => ⟨hw d dm, ?_⟩
      have e24 := e3.trans e4
      refine ht d dm G2 (st1.ex.trans st.ex) H4 (st.grow e24).sub _ fun H5 e5 => ?_
      have e25 := e24.trans e5
      have st5 := st.grow e25
      have hD5 := e25 D _ hD2
      have al5 : ∀ z ∈ zs, RItAt homes H1 G2 H5 z ∧ z.r ≠ D := fun z hz => let ⟨⟨a1, a2, a3, a4, a5, a6⟩, a7⟩ := al z hz; ⟨⟨a1, a2, a3, a4, a5, e25 _ _ a6⟩, a7⟩
      have lenx : zs.length ≤ i := by
        have := congrArg List.length hn
        rw [List.length_map] at this
        rw [this]
        exact Nat.le_trans (List.length_filter_le _ _) (by rw [List.length_take]; omega)
      cases hp : pf d with
      | true =>
        simp only [if_true]
        refine he d dm G2 (st1.ex.trans st.ex) H5 st5.sub _ fun h q t r H6 e6 hq0 ht0 hr0 hq1 ht1 hr1 hh => ?_
        have nqr : q ≠ r := fun z => by rw [z, hr1] at hq1; cases hq1
        have ntr : t ≠ r := fun z => by rw [z, hr1] at ht1; cases ht1
        have nqt : q ≠ t := fun z => by
          rw [z, ht1] at hq1
          simp only [Option.some.injEq, HO.tup.injEq, List.cons.injEq, V.ref.injEq, and_true] at hq1
          exact ntr hq1.2.symm
        have nD : ∀ {c}, H5 c = none → D ≠ c := fun h z => by rw [← z, hD5] at h; cases h
        have gt := st5.sub.non ht0
        have gq := st5.sub.non hq0
        have st6 : Stp G1 H1 (upd (upd G2 t (.tup [.str h, .ref r])) q (.tup [.str d, .ref t])) H6 := ((st5.grow e6).tell gt (st5.keep.free ht0) ht1).tell (by rw [upd_ne nqt]; exact gq) (st5.keep.free hq0) hq1
        have e23 : Same G2 (upd (upd G2 t (.tup [.str h, .ref r])) q (.tup [.str d, .ref t])) := (Same.put gt).trans (Same.put (by rw [upd_ne nqt]; exact gq))
        have gD3 : (upd (upd G2 t (.tup [.str h, .ref r])) q (.tup [.str d, .ref t])) D = none := by rw [upd_ne (nD hq0), upd_ne (nD ht0)]; exact gD
        have hD6 := e6 D _ hD5
        refine ⟨zs.map fun z => V.ref z.q, hD6, by rw [List.length_map, sizeLine_eq]; omega, ns.length - (i + 1), by omega, rfl, hlt, _, zs ++ [⟨d, h, q, t, r⟩], st6.write gD3 hD, gD3, ?_, ?_, fun z hz => ?_, ?_⟩
        · rw [upd_same, List.map_append]; rfl
        · rw [List.map_append, hn, take_snoc hd, List.filter_append]
          have e : [d].filter pf = [d] := by simp [hp]
          rw [e]; rfl
        · rcases List.mem_append.mp hz with hz | hz
          · obtain ⟨⟨a1, a2, a3, a4, a5, a6⟩, a7⟩ := al5 z hz
            refine ⟨⟨e23 _ _ a1, e23 _ _ a2, a3, a4, ?_, ?_⟩, a7⟩
            · have n1 : z.r ≠ q := fun w => by rw [w, hq0] at a6; cases a6
              have n2 : z.r ≠ t := fun w => by rw [w, ht0] at a6; cases a6
              rw [upd_ne n1, upd_ne n2]
              exact a5
            · rw [upd_ne a7]; exact e6 _ _ a6
          · rw [List.mem_singleton.mp hz]
            refine ⟨⟨upd_same, ?_, hh, st5.keep.free hr0, ?_, ?_⟩, (nD hr0).symm⟩
            · show upd (upd G2 t _) q _ t = _
              rw [upd_ne (Ne.symm nqt), upd_same]
            · show upd (upd G2 t _) q _ r = none
              rw [upd_ne (Ne.symm nqr), upd_ne (Ne.symm ntr)]; exact st5.sub.non hr0
            · show upd H6 D _ r = _
              rw [upd_ne (nD hr0).symm]; exact hr1
        · rw [List.map_append, List.nodup_append]
          refine ⟨nd, by simp, fun a ha b hb e => ?_⟩
          rw [List.map_cons, List.map_nil, List.mem_singleton] at hb
          obtain ⟨z, hz, rfl⟩ := List.mem_map.mp ha
          have a6 := (al5 z hz).1.2.2.2.2.2
          have : z.r = r := e.trans hb
          rw [this, hr0] at a6
          cases a6
      | false =>
        simp only [Bool.false_eq_true, if_false]
        refine ⟨ns.length - (i + 1), by omega, rfl, hlt, G2, zs, st5, gD, hD5, ?_, al5, nd⟩
        rw [hn, take_snoc hd, List.filter_append]
        have e : [d].filter pf = [] := by simp [hp]
        rw [e, List.append_nil]
    · have ei : i = ns.length := by omega
      subst ei
      rw [List.take_length] at hn
      exact .inl ⟨wk.stop H2 (st.sub.less st.ex) (Same.frz st.keep), q D zs G2 H2 (st1.trans st) (st1.keep.free hD) gD hD2 hn (fun z hz => let ⟨⟨a1, a2, a3, a4, a5, a6⟩, a7⟩ := al z hz; ⟨⟨a1, a2, a3, st1.keep.free a4, a5, a6⟩, a7⟩) nd⟩
theorem pair_map {α β γ : Type} {R : α → β → Prop} {f : γ → α} {g : γ → β} : ∀ {l : List γ}, (∀ c ∈ l, R (f c) (g c)) → Paired R (l.map f) (l.map g)
  | [], _ => .nil
  | c :: l, h => .cons (h c List.mem_cons_self) (pair_map fun x hx => h x (List.mem_cons_of_mem _ hx))
/-- dict(..) of it -/
theorem e_rowsD (nn : ns.Nodup) (hi : GI Fr0 wi g σ G ns (upN j V.str)) (hz : ns.length ≤ 100000) (hw : ∀ d ∈ ns, wipe (upN j V.str d (wipe σ vs)) vs = wipe σ vs)
    (ht : ∀ d ∈ ns, ∀ G', Same G G' → Gt tt (upN j V.str d (wipe σ vs)) G' (pf d))
    (he : ∀ d ∈ ns, ∀ G', Same G G' → ∀ H, Sub G' H → ∀ Q : VK, (∀ h q t r H', Same H H' → H q = none → H t = none → H r = none → H' q = some (.tup [.str d, .ref t]) → H' t = some (.tup [.str h, .ref r]) → H' r = some (.dK []) → h ∈ homes → Q (.ref q) H') → te (upN j V.str d (wipe σ vs)) H Q)
    (sG : Sub G H) {Q : VK} (q : ∀ P G' H' (R : Rws) pa ra, Stp G H G' H' → RowsX G' H' P R pa ra → RowsO H G' P (R.map (·.1)) ra → R.map (·.1) = ns.filter pf → (∀ q ∈ R, q.2.1 ∈ homes ∧ q.2.2 = []) → Q (.ref P) H') : tCB (rDictP K) (tCons (tLc wi g tt te vs) tNil) σ H Q := by
  show tLc wi g tt te vs σ H fun x H1 => rDictP K [x] H1 Q
  refine e_rows (homes := homes) hi hz hw ht he sG fun D zs G1 H1 st hD gD hD1 hn al nd => ?_
  have ndn : (zs.map (·.n)).Nodup := by rw [hn]; exact nn.filter _
  have ndk : ((zs.map fun z => ((Sum.inr z.n : Key), V.ref z.t)).map (·.1)).Nodup := by
    rw [List.map_map]
    exact List.pairwise_map.mpr ((List.pairwise_map.mp ndn).imp fun h z => h (Sum.inr.inj z))
  refine ⟨D, zs.map (·.q), zs.map fun z => ((Sum.inr z.n : Key), V.ref z.t), rfl, SqL.of (by rw [hD1, List.map_map]; rfl), pair_map fun z hz => SqT.of (st.sub.tup (al z hz).1.1), fun P hP => ?_⟩
  rw [mergeK_new _ [] (by rw [List.nil_append]; exact ndk), List.nil_append]
  have st2 := st.hide (o := .dK (zs.map fun z => ((Sum.inr z.n : Key), V.ref z.t))) hP
  have nP : ∀ z ∈ zs, z.r ≠ P := fun z hz w => by
    have := (al z hz).1.2.2.2.2.2
    rw [w, hP] at this; cases this
  have keys : (zs.map fun z => (z.n, (z.h, ([] : Row)))).map (·.1) = zs.map (·.n) := by rw [List.map_map]; rfl
  refine q P G1 _ (zs.map fun z => (z.n, (z.h, []))) (adBy (zs.map (·.n)) (zs.map (·.t))) (adBy (zs.map (·.n)) (zs.map (·.r))) st2 ⟨?_, fun x hx => ?_, fun x hx => ?_⟩ ⟨st.keep.free hP, st.sub.non hP, fun i hi => ?_, fun i hi => ?_, fun i hi j hj e => ?_, fun i hi => ?_⟩ (by rw [keys, hn]) fun x hx => ?_
  · rw [upd_same, List.map_map]
    refine congrArg (fun l => some (HO.dK l)) (List.map_congr_left fun z hz => ?_)
    show _ = ((Sum.inr z.n : Key), V.ref (adBy (zs.map (·.n)) (zs.map (·.t)) z.n))
    rw [adBy_at (n := fun z : RIt => z.n) (f := fun z : RIt => z.t) ndn hz]
  · obtain ⟨z, hz, rfl⟩ := List.mem_map.mp hx
    show G1 (adBy (zs.map (·.n)) (zs.map (·.t)) z.n) = some (.tup [.str z.h, .ref (adBy (zs.map (·.n)) (zs.map (·.r)) z.n)])
    rw [adBy_at (n := fun z : RIt => z.n) (f := fun z : RIt => z.t) ndn hz, adBy_at (n := fun z : RIt => z.n) (f := fun z : RIt => z.r) ndn hz]
    exact (al z hz).1.2.1
  · obtain ⟨z, hz, rfl⟩ := List.mem_map.mp hx
    show upd H1 P _ (adBy (zs.map (·.n)) (zs.map (·.r)) z.n) = some (.dK [])
    rw [adBy_at (n := fun z : RIt => z.n) (f := fun z : RIt => z.r) ndn hz, upd_ne (nP z hz)]
    exact (al z hz).1.2.2.2.2.2
  · rw [keys] at hi
    obtain ⟨z, hz, rfl⟩ := List.mem_map.mp hi
    rw [adBy_at (n := fun z : RIt => z.n) (f := fun z : RIt => z.r) ndn hz]
    exact (al z hz).1.2.2.2.1
  · rw [keys] at hi
    obtain ⟨z, hz, rfl⟩ := List.mem_map.mp hi
    rw [adBy_at (n := fun z : RIt => z.n) (f := fun z : RIt => z.r) ndn hz]
    exact (al z hz).1.2.2.2.2.1
  · rw [keys] at hi hj
    exact adBy_inj ndn nd (by simp) hi hj e
  · rw [keys] at hi
    obtain ⟨z, hz, rfl⟩ := List.mem_map.mp hi
    rw [adBy_at (n := fun z : RIt => z.n) (f := fun z : RIt => z.r) ndn hz]
    exact nP z hz
  · obtain ⟨z, hz, rfl⟩ := List.mem_map.mp hx
    exact ⟨(al z hz).1.2.2.1, rfl⟩
end
section
variable {σ : L2.St} {G0 H0 G H : Hp} {D : Ends} {a : Addr} {kvs : List (Key × V)}
/-- a dict of one's own is locked while the statement runs, and told so long -/
theorem s_lkO {t : TS} (st0 : Stp G0 H0 G H) (ga : G a = none) (h0 : H0 a = none) (hd : H a = some (.dK kvs))
    (h : ∀ (H1 : Hp) (D1 : Ends), Stp G0 H0 (upd G a (.dK kvs)) H1 → Lk a kvs H1 → (∀ b, b ≠ a → H1 b = H b) →
      (∀ σ' G' H', Lp G0 H0 (upd G a (.dK kvs)) H1 G' H' → (∀ H'', Stp G0 H0 (wo [a] G') H'' → H'' a = some (.dK kvs) → (∀ b, b ≠ a → H'' b = H' b) → D.nx σ' H'') → D1.nx σ' H') →
      (∀ v G' H', Lp G0 H0 (upd G a (.dK kvs)) H1 G' H' → (∀ H'', Stp G0 H0 (wo [a] G') H'' → H'' a = some (.dK kvs) → (∀ b, b ≠ a → H'' b = H' b) → D.rt v H'') → D1.rt v H') → t D1 σ H1) : tLkS t D σ H := by
  refine .inr ⟨a, .dK kvs, hd, trivial, fun od => ?_⟩
  have n0 : ∀ {x o}, G0 x = some o → x ≠ a := fun {x o} e z => by
    have := st0.ex _ _ e
    rw [z, ga] at this; cases this
  have n1 : ∀ {x}, H0 x ≠ none → x ≠ a := fun {x} e z => e (by rw [z]; exact h0)
  have st1 : Stp G0 H0 (upd G a (.dK kvs)) (upd H a (.frz od (.dK kvs))) := ⟨st0.ex.trans (Same.put ga), fun x o e => by
    by_cases ne : x = a
    · subst ne
      rw [upd_same] at e
      cases e
      exact .inr ⟨kvs, od, rfl, upd_same⟩
    · rw [upd_ne ne] at e ⊢
      exact st0.sub x o e, fun x o e => by rw [upd_ne (n1 (by rw [e]; simp))]; exact st0.keep x o e, fun x e1 e2 => by rw [upd_ne (n1 e2)]; exact st0.new x e1 e2⟩
  have back : ∀ G' H', Lp G0 H0 (upd G a (.dK kvs)) (upd H a (.frz od (.dK kvs))) G' H' → H' a = some (.frz od (.dK kvs)) ∧ Stp G0 H0 (wo [a] G') (upd H' a (.dK kvs)) := fun G' H' lp =>
    ⟨lp.fz a od _ upd_same, fun x o e => by rw [wo_out (by simpa using n0 e)]; exact lp.st.ex x o e, fun x o e => by
      by_cases ne : x = a
      · rw [ne, wo_in (List.mem_singleton.mpr rfl)] at e; cases e
      · rw [wo_out (by simpa using ne)] at e
        rw [upd_ne ne]; exact lp.st.sub x o e, fun x o e => by rw [upd_ne (n1 (by rw [e]; simp))]; exact lp.st.keep x o e, fun x e1 e2 => by rw [wo_out (by simpa using n1 e2)]; exact lp.st.new x e1 e2⟩
  exact h _ _ st1 ⟨od, upd_same⟩ (fun b ne => upd_ne ne) (fun σ' G' H' lp k => ⟨(back G' H' lp).1, k _ (back G' H' lp).2 upd_same fun b ne => upd_ne ne⟩) fun v G' H' lp k => ⟨(back G' H' lp).1, k _ (back G' H' lp).2 upd_same fun b ne => upd_ne ne⟩
end
end K25

/-! F30 -/
namespace K25
open PySem PySem.Spec PyProof.Rows L2
/-! ### rows out of the bag -/
theorem fldV_c {g : Fld} {x : Option Str} (h : FldV g x) : FldV (cfld g) x := by
  cases g with
  | mark ws => obtain ⟨s, h1, h2, h3⟩ := h; exact ⟨s, h1, sortS_mem.mpr h2, h3⟩
  | link u => exact h
  | tag => exact h
def setW (rw : Str → Row) (i : Str) (r : Row) : Str → Row := fun k => if k = i then r else rw k
theorem setW_same {rw : Str → Row} {i : Str} {r : Row} : setW rw i r i = r := if_pos rfl
theorem setW_ne {rw : Str → Row} {i k : Str} {r : Row} (h : k ≠ i) : setW rw i r k = rw k := if_neg h
/-- rows, their contents told by a function -/
def rwOf (R : Rws) (rw : Str → Row) : Rws := R.map fun q => (q.1, (q.2.1, rw q.1))
theorem rwOf_keys (R : Rws) (rw : Str → Row) : (rwOf R rw).map (·.1) = R.map (·.1) := by unfold rwOf; rw [List.map_map]; rfl
def RowG (tb : Tbs) (t : Str) (r : Row) : Prop := ∃ fs, valD (ctb tb) t = some fs ∧ RowC fs r
theorem rowG_of {tb : Tbs} (nd : (tb.map (·.1)).Nodup) {t : Str} {fs : Flds} {r : Row} (ndf : (fs.map (·.1)).Nodup) (e : valD tb t = some fs) (hk : r.map (·.1) = sortS (fs.map (·.1))) (ok : ∀ q ∈ r, ∃ g, valD fs q.1 = some g ∧ FldV g q.2) : RowG tb t r :=
  ⟨cfs fs, by rw [ctb_val nd, e]; rfl, ⟨by rw [hk, cfs_keys], fun q hq => let ⟨g, h1, h2⟩ := ok q hq; ⟨cfld g, by rw [cfs_val ndf, h1]; rfl, fldV_c h2⟩⟩⟩
section
variable {P : Program} {w : World} {K : PySem.W.Frag} {mg : Str → Option Value} {base : Heap}
def spLRows : Sp := fun vs H Q _ => ∃ b d tb G, vs = [.ref b, .ref d, .int 10, .int 1] ∧ Sub G H ∧ BagAt G b ∧ TbsAt G d tb ∧ TbsG tb ∧
  ∀ p G' H' R pa ra, Stp G H G' H' → RowsX G' H' p R pa ra → RowsO H G' p (R.map (·.1)) ra → RwOk (ctb tb) R → Q (.ref p) H'
abbrev N_w_rows : List Str := ["_law_bag_here", "_law_tables_here", "_law_top", "_law_strangers", "_law_ids", "_law_names_here", "_law_homes", "_law_far", "_law_found", "_law_ident", "_law_table", "_law_row", "_law_field", "_law_sort", "_law_some", "_law_one"]
theorem sc_w_rows : FnScope N_w_rows ["_law_bag_here", "_law_tables_here", "_law_top", "_law_strangers"] (defScope s_w_rows) := ⟨rfl, rfl, rfl, by decide +kernel, rfl, by decide +kernel, by decide +kernel⟩
-- slots: 0 _law_bag_here*, 1 _law_tables_here, 2 _law_top, 3 _law_strangers, 4 _law_ids, 5 _law_names_here, 6 _law_homes*, 7 _law_far*, 8 _law_found*, 9 _law_ident, 10 _law_table, 11 _law_row, 12 _law_field, 13 _law_sort*, 14 _law_some, 15 _law_one
theorem c_w_rows (T : Tx K mg) : Cal P w K mg base 3 "_law_rows" spLRows := by
  refine ⟨_, _, ["_law_bag_here", "_law_tables_here", "_law_top", "_law_strangers"], fn_body T.f_w_rows sc_w_rows (fun vs H Q E h => by obtain ⟨_, _, _, _, rfl, _⟩ := h; rfl) (fun cdv A outer s H vs Q E hr h => ?_), T.g_w_rows, T.f_w_rows.kp, T.f_w_rows.bindsN fun _ _ _ _ _ _ us hl => match us, hl with | [_, _, _, _], _ => rfl⟩
  obtain ⟨b, d, tb, G, rfl, sG, hb, ⟨tkv, hd, hp⟩, og, k⟩ := h
  have hu := hu_of hr
  refine ⟨_,
    (pss_cons (ps_set (i := 4) sc_w_rows.nd rfl (Or.inl rfl) (pe_cal (c_w_names T) hr (by decide) rfl (pa_cons (pv 0) (pa_cons (pe_op op_add (pe_cal (c_w_take T) hr (by decide) rfl (pa_cons (pv 0) (pa_cons (pe_op op_add (pv 2) pe_int) pa_nil))) (pv 3)) pa_nil))))
    (pss_cons (ps_asg (pe_tup (pa_cons (pe_op op_cat (pe_cal (c_w_names T) hr (by decide) rfl (pa_cons (pv 0) (pa_cons pe_int pa_nil))) (pe_lst (pa_cons pe_str pa_nil))) (pa_cons (pe_callB (cr_sortedD rfl) (by rfl) T.b_sorted (by decide +kernel) (pa_cons (pv 1) pa_nil)) pa_nil))) (pg_tupK (n := 2) rfl rfl (pgs_cons (pg_name (i := 5) sc_w_rows.nd rfl (Or.inl rfl)) (pgs_cons (pg_name (i := 6) sc_w_rows.nd rfl (Or.inr rfl)) pgs_nil))))
    (pss_cons (ps_set (i := 7) sc_w_rows.nd rfl (Or.inr rfl) (pe_slice (sl_listK rfl) (pv 4) (po_some (pe_op op_sub (pe_callB (call_len_seqK rfl) (by rfl) T.b_len (by decide +kernel) (pa_cons (pv 4) pa_nil)) (pv 3))) po_none))
    (pss_cons (ps_set (i := 8) sc_w_rows.nd rfl (Or.inr rfl) (pe_callTy (call_dictP rfl) (by rfl) T.b_dict (by decide +kernel) (pa_cons (pe_lc rfl sc_w_rows.nd (pi_listK rfl (pv 4)) (blkOk_by (own := [("_law_ident", 9)]) (N := N_w_rows) (sc := defScope s_w_rows) (by decide +kernel)) (fun _ _ _ _ _ => (pg_name (i := 9) sc_w_rows.nd rfl (Or.inl rfl))) (fun _ _ _ _ _ => (pts_one (pt_cmpR (op_notIn_seqK rfl) (pv 9) (pv 7) (by rfl)))) (fun _ _ _ _ _ => (pe_tup (pa_cons (pv 9) (pa_cons (pe_tup (pa_cons (pe_ix (ix_listK rfl) (pv 6) (pe_cal (c_w_take T) hr (by decide) rfl (pa_cons (pv 0) (pa_cons (pe_callB (call_len_seqK rfl) (by rfl) T.b_len (by decide +kernel) (pa_cons (pv 6) pa_nil)) pa_nil))) (fun _ _ => rfl)) (pa_cons pe_dnewK pa_nil))) pa_nil))))) pa_nil)))
    (pss_cons (ps_lkS (ps_for PassesOwn.never rfl (pi_keys (pv 8)) (pg_name (i := 9) sc_w_rows.nd rfl (Or.inl rfl))
      (pss_cons (ps_asg (pe_dget hu (pv 8) (pv 9) (fun _ _ => rfl)) (pg_tupK (n := 2) rfl rfl (pgs_cons (pg_name (i := 10) sc_w_rows.nd rfl (Or.inl rfl)) (pgs_cons (pg_name (i := 11) sc_w_rows.nd rfl (Or.inl rfl)) pgs_nil))))
      (pss_one (ps_for PassesOwn.never rfl (pi_listK rfl (pe_callB (cr_sortedD rfl) (by rfl) T.b_sorted (by decide +kernel) (pa_cons (pe_dget hu (pv 1) (pv 10) (fun _ _ => rfl)) pa_nil))) (pg_name (i := 12) sc_w_rows.nd rfl (Or.inl rfl))
        (pss_cons (ps_set (i := 13) sc_w_rows.nd rfl (Or.inr rfl) (pe_dget hu (pe_dget hu (pv 1) (pv 10) (fun _ _ => rfl)) (pv 12) (fun _ _ => rfl)))
        (pss_one (ps_if (pt_cmpR op_eq (pe_ix (ix_tupK rfl) (pv 13) pe_int (fun _ _ => rfl)) pe_str (nomark _))
          (pss_one (ps_dput hu (pv 11) (pv 12) (pe_ix (ix_listK rfl) (pe_ix (ix_tupK rfl) (pv 13) pe_int (fun _ _ => rfl)) (pe_cal (c_w_take T) hr (by decide) rfl (pa_cons (pv 0) (pa_cons (pe_callB (call_len_seqK rfl) (by rfl) T.b_len (by decide +kernel) (pa_cons (pe_ix (ix_tupK rfl) (pv 13) pe_int (fun _ _ => rfl)) pa_nil)) pa_nil))) (fun _ _ => rfl)) rfl))
          (pss_one (ps_if (pt_cmpR op_eq (pe_ix (ix_tupK rfl) (pv 13) pe_int (fun _ _ => rfl)) pe_str (nomark _))
            (pss_one (ps_dput hu (pv 11) (pv 12) (pe_ix (ix_listK rfl) (pe_op op_cat (pe_lst (pa_cons pe_non pa_nil)) (pv 5)) (pe_cal (c_w_take T) hr (by decide) rfl (pa_cons (pv 0) (pa_cons pe_int pa_nil))) (fun _ _ => rfl)) rfl))
            (pss_cons (ps_set (i := 14) sc_w_rows.nd rfl (Or.inl rfl) (pe_op op_cat (pe_op op_cat (pe_op op_cat (pe_lst (pa_cons pe_non pa_nil)) (pe_lk (pe_lc rfl sc_w_rows.nd (pi_keys (pv 8)) (blkOk_by (own := [("_law_one", 15)]) (N := N_w_rows) (sc := defScope s_w_rows) (by decide +kernel)) (fun _ _ _ _ _ => (pg_name (i := 15) sc_w_rows.nd rfl (Or.inl rfl))) (fun _ _ _ _ _ => (pts_one (pt_cmpR op_eq (pe_ix (ix_tupK rfl) (pe_dget hu (pv 8) (pv 15) (fun _ _ => rfl)) pe_int (fun _ _ => rfl)) (pe_ix (ix_tupK rfl) (pv 13) pe_int (fun _ _ => rfl)) (nomark _)))) (fun _ _ _ _ _ => (pv 15))))) (pv 7)) (pe_slice (sl_listK rfl) (pe_callTy (cr_listD rfl) (by rfl) T.b_list (by decide +kernel) (pa_cons (pv 8) pa_nil)) po_none (po_some pe_int))))
            (pss_one (ps_dput hu (pv 11) (pv 12) (pe_ix (ix_listK rfl) (pv 14) (pe_cal (c_w_take T) hr (by decide) rfl (pa_cons (pv 0) (pa_cons (pe_callB (call_len_seqK rfl) (by rfl) T.b_len (by decide +kernel) (pa_cons (pv 14) pa_nil)) pa_nil))) (fun _ _ => rfl)) rfl)))))))))))))
    (pss_one (ps_ret (pv 8)))))))), ?_⟩
  have lk := hp.length
  have lo := og.lo
  have hi := og.hi
  refine q_setX sG (ge_names (lo := 1) (hi := 11) hb (gv_var rfl) (gz_op0 (gz_take hb (gv_var rfl) (gv_op (gv_var rfl) gv_c rv_I0) (by decide) (by decide)) (gz_v (A := fun x => x = 1) (gv_var rfl) rfl) fun x y hx hy => by omega) (by decide) (by decide)) fun v G1 H1 s1 hv => ?_
  obtain ⟨il, ns, rfl, hil, nd, nm, n1, n11⟩ := hv
  have hb1 := hb.mono s1.ex
  have ne : ns ≠ [] := fun z => by rw [z] at n1; simp at n1
  have npos : 0 < ns.length := List.length_pos_iff.mpr ne
  refine q_twoX (Θ := fun u w G' => ∃ p q ms, u = .ref p ∧ w = .ref q ∧ G' p = some (sL ms) ∧ ms.length = 3 ∧ (∀ m ∈ ms, Nm m) ∧ G' q = some (sL (sortS (tb.map (·.1))))) s1.sub (ge_tup (gxa_cons (Ψ := fun v G' => ∃ p ms, v = .ref p ∧ G' p = some (sL ms) ∧ ms.length = 3 ∧ ∀ m ∈ ms, Nm m)
    (ge_catX (ge_names (lo := 2) (hi := 2) hb1 (gv_var rfl) (gz_v gv_c ⟨by decide, by decide⟩) (by decide) (by decide)) fun v G' e hv => ?_)
    fun v G' e hv => gxa_cons (Ψ := fun v G' => ∃ q, v = .ref q ∧ G' q = some (sL (sortS (tb.map (·.1))))) (ge_gn (gl_sortedD (ks := tb.map (·.1)) (gv_var rfl) (e _ _ (s1.ex _ _ hd)) hp.keys (by rw [List.length_map]; omega)) fun q gq => ⟨q, rfl, upd_same⟩) fun w G'' e2 hw => gxa_nil ⟨few rfl, fun p gp => ?_⟩)) fun u w G2 H2 s2 hv => ?_
  · obtain ⟨p, ms, rfl, hp', _, nm', l2, l2'⟩ := hv
    exact ⟨p, ms.map V.str, [V.str "ab"], rfl, hp', gl_lst (ga_cons gv_c ga_nil) (few rfl), by rw [List.length_map]; simp; omega, fun p2 gp => ⟨p2, ms ++ [("ab" : Str)], rfl, by rw [upd_same, sL, List.map_append]; rfl, by rw [List.length_append]; simp; omega, fun m hm => by
      rcases List.mem_append.mp hm with hm | hm
      · exact nm' m hm
      · rw [List.mem_singleton.mp hm]; decide +kernel⟩⟩
  · obtain ⟨pm, ms, rfl, h1, h2, h3⟩ := hv
    obtain ⟨q, rfl, hq⟩ := hw
    exact ⟨p, _, _, rfl, upd_same, pm, q, ms, rfl, rfl, Same.put gp _ _ (e2 _ _ h1), h2, h3, Same.put gp _ _ hq⟩
  obtain ⟨pm, qh, ms, rfl, rfl, hpm, lms, nms', hqh⟩ := hv
  have st2 := s1.trans s2
  have hil2 := s2.ex _ _ hil
  refine q_setN st2.sub (mk := sL (ns.drop (ns.length - 1))) (gl_slX (gv_var rfl) hil2 (to_gv (gv_op (gv_lenL (n := (ns.length : Int)) (gv_var rfl) hil2 (by rw [List.length_map])) (gv_var rfl) rv_I0)) to_none (cut_last V.str ns ne)) fun fr H3 e3 hf hf' => ?_
  have gf := st2.sub.non hf
  have st3 := (st2.grow e3).tell gf (st2.keep.free hf) hf'
  have e23 : Same G2 (upd G2 fr (sL (ns.drop (ns.length - 1)))) := Same.put gf
  have hfr : (upd G2 fr (sL (ns.drop (ns.length - 1)))) fr = some (sL (ns.drop (ns.length - 1))) := upd_same
  generalize upd G2 fr (sL (ns.drop (ns.length - 1))) = G3 at *
  have eG3 : Same G G3 := st3.ex
  have hil3 := e23 _ _ hil2
  have hqh3 := e23 _ _ hqh
  have hpm3 := e23 _ _ hpm
  have hb3 := hb.mono eG3
  have lh : (sortS (tb.map (·.1))).length = tb.length := by rw [sortS_len, List.length_map]
  refine q_of ?_
  show tCB _ _ _ _ _
  refine e_rowsD (homes := sortS (tb.map (·.1))) (pf := fun n => !decide (n ∈ ns.drop (ns.length - 1))) nd (gi_list (emb := V.str) (gv_var rfl) hil3) (by omega) (fun _ _ => rfl) (fun n hn G' e => gt_test (gv_op (gv_var rfl) (gv_var rfl) (rv_inS (neg := true) (e _ _ hfr)))) (fun n hn G' e H s Q qq => ?_) st3.sub fun Pd G4 H4 R pa ra s4 hX hO hk hh => ?_
  · refine ⟨_, rfl, ?_⟩
    refine gw_ixL (gv_var rfl) (e _ _ hqh3) ((gz_take (hb3.mono e) (gv_var rfl) (gv_lenL (n := (tb.length : Int)) (gv_var rfl) (e _ _ hqh3) (by rw [List.length_map, lh])) (by omega) (by omega)).imp fun r hr => by rw [List.length_map, lh]; exact hr) H s _ fun v Ha ea hv => fun r hr0 => ⟨few rfl, fun t ht => ⟨few rfl, fun q hq => ?_⟩⟩
    obtain ⟨h, hh, rfl⟩ := List.mem_map.mp hv
    have ert : Same (upd Ha r (.dK [])) (upd (upd Ha r (.dK [])) t (.tup [.str h, .ref r])) := Same.put ht
    have eq : Same (upd (upd Ha r (.dK [])) t (.tup [.str h, .ref r])) (upd (upd (upd Ha r (.dK [])) t (.tup [.str h, .ref r])) q (.tup [.str n, .ref t])) := Same.put hq
    have er : Same Ha (upd Ha r (.dK [])) := Same.put hr0
    exact qq h q t r _ (ea.trans (er.trans (ert.trans eq))) ((ea.trans (er.trans ert)).free hq) ((ea.trans er).free ht) (ea.free hr0) upd_same (eq _ _ upd_same) (eq _ _ (ert _ _ upd_same)) hh
  have st4 := st3.trans s4
  have ndR : (R.map (·.1)).Nodup := by rw [hk]; exact nd.filter _
  have l10 : R.length ≤ 10 := by
    have e1 := congrArg List.length hk
    rw [List.length_map] at e1
    have hlast : ∃ x, ns.drop (ns.length - 1) = [x] := by
      have := List.length_drop (l := ns) (i := ns.length - 1)
      have l1 : (ns.drop (ns.length - 1)).length = 1 := by omega
      exact List.length_eq_one_iff.mp l1
    obtain ⟨x, hx⟩ := hlast
    have xm : x ∈ ns := List.mem_of_mem_drop (by rw [hx]; exact List.mem_singleton.mpr rfl)
    have : (ns.filter fun n => !decide (n ∈ ns.drop (ns.length - 1))).length < ns.length := List.length_filter_lt_length_iff_exists.mpr ⟨x, xm, by rw [hx]; simp⟩
    omega
  have nmR : ∀ i ∈ R.map (·.1), Nm i := fun i hi => nm i (by rw [hk] at hi; exact (List.mem_filter.mp hi).1)
  have htab : ∀ q ∈ R, ∃ fs, valD tb q.2.1 = some fs := fun q hq => valD_in (sortS_mem.mp (hh q hq).1)
  have hil4 := s4.ex _ _ hil3
  have hfr4 := s4.ex _ _ hfr
  have hpm4 := s4.ex _ _ hpm3
  have hb4 := hb3.mono s4.ex
  have eG4 : Same G G4 := st4.ex
  have hPd := hX.dict
  have vP : ∀ q ∈ R, valV (R.map fun q => ((Sum.inr q.1 : Key), V.ref (pa q.1))) (Sum.inr q.1) = some (.ref (pa q.1)) := fun q hq => valV_of_nodup (by rw [List.map_map]; exact List.pairwise_map.mpr ((List.pairwise_map.mp ndR).imp fun h z => h (Sum.inr.inj z))) (List.mem_map.mpr ⟨q, hq, rfl⟩)
  generalize hkv : (R.map fun q => ((Sum.inr q.1 : Key), V.ref (pa q.1))) = kvP at *
  have keysP : kvP.map (fun kv => kV kv.1) = (R.map (·.1)).map V.str := by rw [← hkv, List.map_map, List.map_map]; rfl
  have ids_in : ∀ q ∈ R, q.1 ∈ R.map (·.1) := fun q hq => List.mem_map.mpr ⟨q, hq, rfl⟩
  have own0 : ∀ i ∈ R.map (·.1), Own H G4 (ra i) H4 (.dK (rowK [])) := fun i hi => by
    obtain ⟨q, hq, rfl⟩ := List.mem_map.mp hi
    have e1 := hX.row q hq
    rw [(hh q hq).2] at e1
    exact ⟨st3.keep.free (hO.r0 _ hi), hO.rg _ hi, e1⟩
  refine q_of (s_lkO (a := Pd) (kvs := kvP) st4 hO.dg (st3.keep.free hO.d0) hPd fun H5 D1 st5 lkk hother nxE rtE => ?_)
  have ePd : Same G4 (upd G4 Pd (.dK kvP)) := Same.put hO.dg
  have hPdT : (upd G4 Pd (.dK kvP)) Pd = some (.dK kvP) := upd_same
  have own5 : ∀ i ∈ R.map (·.1), Own H (upd G4 Pd (.dK kvP)) (ra i) H5 (.dK (rowK [])) := fun i hi => ⟨(own0 i hi).h0, by rw [upd_ne (hO.ne i hi)]; exact (own0 i hi).g, by rw [hother _ (hO.ne i hi)]; exact (own0 i hi).at_⟩
  generalize hG5 : upd G4 Pd (.dK kvP) = G5 at *
  have eG5 := eG4.trans ePd
  have hdat : ∀ q ∈ R, G5 (pa q.1) = some (.tup [.str q.2.1, .ref (ra q.1)]) := fun q hq => ePd _ _ (hX.tup q hq)
  refine s_for (Pre := Lk Pd kvP) (G0 := G) (H0 := H) (ds := R) (up := upN 9 fun q => .str q.1) (Iv := fun (j : Nat) σ2 G6 H6 => ∃ v9 v10 v11 v12 v13 v14 rw', σ2 = [some (.ref b), some (.ref d), some (.int 10), some (.int 1), some (.ref il), some (.ref pm), some (.ref qh), some (.ref fr), some (.ref Pd), v9, v10, v11, v12, v13, v14, none] ∧ Same G5 G6 ∧ (∀ i ∈ R.map (·.1), Own H G6 (ra i) H6 (.dK (rowK (rw' i)))) ∧ (∀ q ∈ R.take j, RowG tb q.2.1 (rw' q.1)) ∧ ∀ q ∈ R.drop j, rw' q.1 = [])
    st5 (gi_keys (kf := fun q : Str × (Str × Row) => ((Sum.inr q.1 : Key), V.ref (pa q.1))) (gv_var rfl) hkv.symm) lkk (by
      rintro _ _ _ _ _ e ⟨v9, v10, v11, v12, v13, v14, rw', h1, h2, h3, h4⟩
      exact ⟨v9, v10, v11, v12, v13, v14, rw', h1, h2, fun i hi => (h3 i hi).grow e, h4⟩) (fun G6 H6 s6 => ⟨_, _, _, _, _, _, fun _ => [], rfl, s6.ex, fun i hi => (own5 i hi).step s6, fun q hq => (by cases hq), fun _ _ => rfl⟩) (fun G6 H6 s6 j q hq σ2 G7 H7 lp iv => ?_) fun G6 H6 σ2 lp iv => ?_
  · obtain ⟨v9, v10, v11, v12, v13, v14, rw', rfl, eG, own, hdone, htodo⟩ := iv
    have qm := List.mem_of_getElem? hq
    obtain ⟨fs, efs⟩ := htab q qm
    have iq := ids_in q qm
    have ogf := og.ok _ (valD_mem efs)
    obtain ⟨fv, hfv, fa, rfl, hfa⟩ := (hp.get q.2.1).1 fs efs
    have rw0 : rw' q.1 = [] := htodo q (List.mem_iff_getElem?.mpr ⟨0, by rw [List.getElem?_drop, Nat.add_zero]; exact hq⟩)
    refine q_two lp.st.sub (gv_dget (k := Sum.inr q.1) (gv_var rfl) (gv_var rfl) (eG _ _ hPdT) (vP q qm)) (eG _ _ (hdat q qm)) fun H8 e8 => ?_
    have lp8 := lp.grow e8
    have hd7 : ∀ {G'}, Same G7 G' → G' d = some (.dK tkv) := fun e => e _ _ (eG _ _ (eG5 _ _ hd))
    have lf6 : fs.length ≤ 6 := ogf.len
    have hfa7 : ∀ {G'}, Same G7 G' → ∃ fkv, G' fa = some (.dK fkv) ∧ PrD FldAt G' fkv fs := fun e => hfa.mono fld_mono (eG5.trans (eG.trans e))
    obtain ⟨fkv, hfkd, hfkp⟩ := hfa7 (Same.refl G7)
    refine s_for (Pre := Fr0) (G0 := G) (H0 := H) (ds := sortS (fs.map (·.1))) (up := upN 12 V.str) (Iv := fun (m : Nat) σ2 G8 H8 => ∃ v12 v13 v14 r, σ2 = [some (.ref b), some (.ref d), some (.int 10), some (.int 1), some (.ref il), some (.ref pm), some (.ref qh), some (.ref fr), some (.ref Pd), some (.str q.1), some (.str q.2.1), some (.ref (ra q.1)), v12, v13, v14, none] ∧ Same G7 G8 ∧ (∀ i ∈ R.map (·.1), Own H G8 (ra i) H8 (.dK (rowK (setW rw' q.1 r i)))) ∧ r.map (·.1) = (sortS (fs.map (·.1))).take m ∧ ∀ x ∈ r, ∃ g, valD fs x.1 = some g ∧ FldV g x.2)
      lp8.st (gi_listN (emb := V.str) (gl_sortedD (ks := fs.map (·.1)) (gv_dget (k := Sum.inr q.2.1) (gv_var rfl) (gv_var rfl) (hd7 (Same.refl _)) hfv) hfkd hfkp.keys (by rw [List.length_map]; omega))) trivial (by
        rintro _ _ _ _ _ e ⟨v12, v13, v14, r, h1, h2, h3, h4⟩
        exact ⟨v12, v13, v14, r, h1, h2, fun i hi => (h3 i hi).grow e, h4⟩) (fun G8 H9 s8 => ⟨_, _, _, [], rfl, s8.ex, fun i hi => ?_, rfl, fun x hx => by cases hx⟩) (fun G8 H9 s8 m f hf σ2 G9 H9' lpm iv => ?_) fun G8 H9 σ2 lpm iv => ?_
    · have := ((own i hi).grow e8).step s8
      by_cases z : i = q.1
      · rw [z, setW_same]; rw [z, rw0] at this; exact this
      · rw [setW_ne z]; exact this
    · obtain ⟨v12, v13, v14, r, rfl, eG8, own8, hkr, okr⟩ := iv
      have fm := sortS_mem.mp (List.mem_of_getElem? hf)
      obtain ⟨g, eg⟩ := valD_in fm
      obtain ⟨fkv9, hfk9, hfp9⟩ := hfa7 eG8
      obtain ⟨gv, hgv, hg⟩ := (hfp9.get f).1 g eg
      have ogg := ogf.ok _ (valD_mem eg)
      obtain ⟨ga, gr, rfl, hga⟩ := hg.any
      have eG59 := eG.trans eG8
      have hb9 := hb4.mono (ePd.trans eG59)
      have fnew : f ∉ r.map (·.1) := fun z => by
        have nds : ((sortS (fs.map (·.1))).take (m + 1)).Nodup := (sortS_nodup ogf.nd).sublist (List.take_sublist _ _)
        rw [take_snoc hf, List.nodup_append, ← hkr] at nds
        exact nds.2.2 f z f (List.mem_singleton.mpr rfl) rfl
      have lr : r.length ≤ 6 := by
        have := congrArg List.length hkr
        rw [List.length_map, List.length_take, sortS_len, List.length_map] at this
        omega
      refine q_set lpm.st.sub (gv_dget (k := Sum.inr f) (gv_dget (k := Sum.inr q.2.1) (gv_var rfl) (gv_var rfl) (hd7 eG8) hfv) (gv_var rfl) hfk9 hgv) fun H10 e10 => ?_
      have lp10 := lpm.grow e10
      have put : ∀ {σ : L2.St} {D : Ends} {G11 H11 : Hp} {tv : TE} {s14 : Option V}, σ = [some (.ref b), some (.ref d), some (.int 10), some (.int 1), some (.ref il), some (.ref pm), some (.ref qh), some (.ref fr), some (.ref Pd), some (.str q.1), some (.str q.2.1), some (.ref (ra q.1)), some (.str f), some (.ref ga), s14, none] → Lp G H G8 H9 G11 H11 → Same G9 G11 → (∀ i ∈ R.map (·.1), Own H G11 (ra i) H11 (.dK (rowK (setW rw' q.1 r i)))) →
          (∀ σ3 H3, (∃ G3, Lp G H G8 H9 G3 H3 ∧ ∃ v12 v13 v14 r, σ3 = [some (.ref b), some (.ref d), some (.int 10), some (.int 1), some (.ref il), some (.ref pm), some (.ref qh), some (.ref fr), some (.ref Pd), some (.str q.1), some (.str q.2.1), some (.ref (ra q.1)), v12, v13, v14, none] ∧ Same G7 G3 ∧ (∀ i ∈ R.map (·.1), Own H G3 (ra i) H3 (.dK (rowK (setW rw' q.1 r i)))) ∧ r.map (·.1) = (sortS (fs.map (·.1))).take (m + 1) ∧ ∀ x ∈ r, ∃ g, valD fs x.1 = some g ∧ FldV g x.2) → D.nx σ3 H3) →
          Gw (fun v => ∃ x, v = ov x ∧ FldV g x) tv σ G11 → sDPut (tVar 11) (tVar 12) tv D σ H11 := by
        intro σ D G11 H11 tv s14 eσ lp11 e911 own11 fin hv
        subst eσ
        refine s_dput lp11.st.sub hv.gx fun v G12 H12 s12 hv => ?_
        obtain ⟨⟨x, rfl, hx⟩, rfl⟩ := hv
        have oi := (own11 q.1 iq).step s12
        rw [setW_same] at oi
        refine ⟨G12, ra q.1, Sum.inr f, rowK r, (lp11.step s12).st.sub, gv_var rfl, gv_var rfl, oi.at_, by unfold rowK; rw [List.length_map, sizeLine_eq]; omega, fun H13 e13 => fin _ _ ⟨G12, ((lp11.step s12).grow e13).write (oi.grow e13) (by simp), _, _, _, r ++ [(f, x)], rfl, eG8.trans e911, fun i hi => ?_, ?_, ?_⟩⟩
        · have epk : putK (rowK r) (Sum.inr f) (ov x) = rowK (r ++ [(f, x)]) := by
            rw [putK_new]
            · unfold rowK; rw [List.map_append]; rfl
            · rw [rowK_val, valD_none.mpr fnew]; rfl
          by_cases z : i = q.1
          · rw [z, setW_same, epk]
            exact (oi.grow e13).write
          · rw [setW_ne z]
            have := ((own11 i hi).step s12).grow e13
            rw [setW_ne z] at this
            exact this.other fun w => z (hO.inj i hi q.1 iq w)
        · rw [List.map_append, hkr, take_snoc hf]; rfl
        · intro y hy
          rcases List.mem_append.mp hy with hy | hy
          · exact okr y hy
          · rw [List.mem_singleton.mp hy]; exact ⟨g, eg, hx⟩
      have own10 : ∀ i ∈ R.map (·.1), Own H G9 (ra i) H10 (.dK (rowK (setW rw' q.1 r i))) := fun i hi => (own8 i hi).grow e10
      cases g with
      | mark ws =>
        obtain ⟨a', l, ea, ha', hl'⟩ := hg
        cases ea
        obtain ⟨_, wnm, w1, w3⟩ := ogg
        refine s_yes lp10.st.sub (gt_test (gv_eq (by simp [Fld.sort]) (gv_op (gv_op (gv_var rfl) gv_c (rv_ixT hga (at0 _ _))) gv_c (rv_eq rfl)))) fun H11 e11 => ?_
        refine put rfl (lp10.grow e11) (Same.refl _) (fun i hi => (own10 i hi).grow e11) (fun _ _ h => h) ?_
        refine (gw_ixL (gv_op (gv_var rfl) gv_c (rv_ixT ha' (atN (j := 1) rfl))) hl' ((gz_take hb9 (gv_var rfl) (gv_lenL (n := (ws.length : Int)) (gv_op (gv_var rfl) gv_c (rv_ixT ha' (atN (j := 1) rfl))) hl' (by rw [List.length_map])) (by omega) (by omega)).imp fun r hr => by rw [List.length_map]; exact hr)).imp fun v hv => ?_
        obtain ⟨s, hs, rfl⟩ := List.mem_map.mp hv
        exact ⟨some s, rfl, s, rfl, hs, wnm s hs⟩
      | tag =>
        refine s_no lp10.st.sub (gt_test (gv_eq (by simp [Fld.sort]; decide) (gv_op (gv_op (gv_var rfl) gv_c (rv_ixT hga (at0 _ _))) gv_c (rv_eq rfl)))) fun H11 e11 => ?_
        refine s_yes (lp10.grow e11).st.sub (gt_test (gv_eq (by simp [Fld.sort]) (gv_op (gv_op (gv_var rfl) gv_c (rv_ixT hga (at0 _ _))) gv_c (rv_eq rfl)))) fun H12 e12 => ?_
        refine put rfl (lp10.grow (e11.trans e12)) (Same.refl _) (fun i hi => (own10 i hi).grow (e11.trans e12)) (fun _ _ h => h) ?_
        refine (gw_ixN (gl_catN (xs := [V.non]) (gl_lst (ga_cons gv_c ga_nil) (few rfl)) (gv_var rfl) (eG59 _ _ (ePd _ _ hpm4)) (by rw [List.length_map]; simp; omega)) ((gz_take hb9 (gv_var rfl) gv_c (by decide) (by decide)).imp fun r hr => by rw [List.length_append, List.length_map, lms]; simp; omega)).imp fun v hv => ?_
        rcases List.mem_append.mp hv with hv | hv
        · rw [List.mem_singleton.mp hv]; exact ⟨none, rfl, fun s e => by cases e⟩
        · obtain ⟨s, hs, rfl⟩ := List.mem_map.mp hv
          exact ⟨some s, rfl, fun s' e => by cases e; exact nms' s hs⟩
      | link u =>
        obtain ⟨a', ea, ha'⟩ := hg
        cases ea
        refine s_no lp10.st.sub (gt_test (gv_eq (by simp [Fld.sort]; decide) (gv_op (gv_op (gv_var rfl) gv_c (rv_ixT hga (at0 _ _))) gv_c (rv_eq rfl)))) fun H11 e11 => ?_
        refine s_no (lp10.grow e11).st.sub (gt_test (gv_eq (by simp [Fld.sort]; decide) (gv_op (gv_op (gv_var rfl) gv_c (rv_ixT hga (at0 _ _))) gv_c (rv_eq rfl)))) fun H12 e12 => ?_
        have lp12 := lp10.grow (e11.trans e12)
        have hPd9 := eG59 _ _ hPdT
        obtain ⟨ys, ey, ly, my⟩ := cutV_mapG V.str (R.map (·.1)) none (some 2)
        refine q_setN lp12.st.sub (mk := .lst ([V.non] ++ ((R.filter fun z => decide (V.str z.2.1 = V.str u)).map fun z => V.str z.1) ++ (ns.drop (ns.length - 1)).map V.str ++ ys.map V.str)) (gl_catNN (gl_catN (gl_catNN (gl_lst (ga_cons gv_c ga_nil) (few rfl)) (gl_lcK hPd9 (ds := R) (up := upN 15 fun z => .str z.1) (pf := fun z => decide (V.str z.2.1 = V.str u)) (fun z => V.str z.1) (gi_keys (kf := fun q : Str × (Str × Row) => ((Sum.inr q.1 : Key), V.ref (pa q.1))) (gv_var rfl) hkv.symm) (by omega) (fun _ _ => rfl) (fun z hz => gt_test (gv_op (gv_op (gv_dget (k := Sum.inr z.1) (gv_var rfl) (gv_var rfl) hPd9 (vP z hz)) gv_c (rv_ixT (eG59 _ _ (hdat z hz)) (at0 _ _))) (gv_op (gv_var rfl) gv_c (rv_ixT ha' (atN (j := 1) rfl))) (rv_eq rfl))) fun z hz _ => gv_var rfl) ?_) (gv_var rfl) (eG59 _ _ (ePd _ _ hfr4)) ?_) (gl_slN (xs := (R.map (·.1)).map V.str) (gl_listD (gv_var rfl) hPd9 keysP) to_none to_int ey) ?_) fun sm H13 e13 hs0 hs1 => ?_
        · have := List.length_filter_le (fun z : Str × (Str × Row) => decide (V.str z.2.1 = V.str u)) R
          rw [List.length_map]; simp only [List.length_cons, List.length_nil]; omega
        · have := List.length_filter_le (fun z : Str × (Str × Row) => decide (V.str z.2.1 = V.str u)) R
          rw [List.length_append, List.length_map, List.length_map, List.length_drop]; simp only [List.length_cons, List.length_nil]; omega
        · have := List.length_filter_le (fun z : Str × (Str × Row) => decide (V.str z.2.1 = V.str u)) R
          rw [List.length_map] at ly
          rw [List.length_append, List.length_append, List.length_map, List.length_map, List.length_map, List.length_drop]; simp only [List.length_cons, List.length_nil]; omega
        · have gs := lp12.st.sub.non hs0
          have lp13 : Lp G H G8 H9 (upd G9 sm _) H13 := ⟨(lp12.st.grow e13).tell gs (lp12.st.keep.free hs0) hs1, lp12.ex.trans (Same.put gs), lp12.fz.same e13⟩
          have nsm : ∀ i ∈ R.map (·.1), ra i ≠ sm := fun i hi w => by
            have := ((own10 i hi).grow (e11.trans e12)).at_
            rw [w, hs0] at this; cases this
          refine put rfl lp13 (Same.put gs) (fun i hi => ⟨(own10 i hi).h0, by rw [upd_ne (nsm i hi)]; exact (own10 i hi).g, ((own10 i hi).grow ((e11.trans e12).trans e13)).at_⟩) (fun _ _ h => h) ?_
          have all : ∀ v ∈ [V.non] ++ ((R.filter fun z => decide (V.str z.2.1 = V.str u)).map fun z => V.str z.1) ++ (ns.drop (ns.length - 1)).map V.str ++ ys.map V.str, ∃ x, v = ov x ∧ FldV (.link u) x := fun v hv => by
            have nmv : ∀ s : Str, Nm s → ∃ x, V.str s = ov x ∧ FldV (.link u) x := fun s hs => ⟨some s, rfl, fun s' e => by cases e; exact hs⟩
            rcases List.mem_append.mp hv with hv | hv
            · rcases List.mem_append.mp hv with hv | hv
              · rcases List.mem_append.mp hv with hv | hv
                · rw [List.mem_singleton.mp hv]; exact ⟨none, rfl, fun s e => by cases e⟩
                · obtain ⟨z, hz, rfl⟩ := List.mem_map.mp hv
                  exact nmv _ (nmR _ (ids_in z (List.mem_filter.mp hz).1))
              · obtain ⟨s, hs, rfl⟩ := List.mem_map.mp hv
                exact nmv _ (nm s (List.mem_of_mem_drop hs))
            · obtain ⟨s, hs, rfl⟩ := List.mem_map.mp hv
              exact nmv _ (nmR s (my s hs))
          have lpos : 0 < ([V.non] ++ ((R.filter fun z => decide (V.str z.2.1 = V.str u)).map fun z => V.str z.1) ++ (ns.drop (ns.length - 1)).map V.str ++ ys.map V.str).length := by simp
          have lmax : ([V.non] ++ ((R.filter fun z => decide (V.str z.2.1 = V.str u)).map fun z => V.str z.1) ++ (ns.drop (ns.length - 1)).map V.str ++ ys.map V.str).length ≤ 1000 := by
            have := List.length_filter_le (fun z : Str × (Str × Row) => decide (V.str z.2.1 = V.str u)) R
            rw [List.length_map] at ly
            rw [List.length_append, List.length_append, List.length_append, List.length_map, List.length_map, List.length_map, List.length_drop]; simp only [List.length_cons, List.length_nil]; omega
          generalize [V.non] ++ ((R.filter fun z => decide (V.str z.2.1 = V.str u)).map fun z => V.str z.1) ++ (ns.drop (ns.length - 1)).map V.str ++ ys.map V.str = L at *
          exact (gw_ixL (gv_var rfl) upd_same ((gz_take (hb9.mono (Same.put gs)) (gv_var rfl) (gv_lenL (n := (L.length : Int)) (gv_var rfl) upd_same rfl) (by omega) (by omega)).imp fun r hr => hr)).imp fun v hv => all v hv
    · obtain ⟨v12, v13, v14, r, rfl, eG8, own8, hkr, okr⟩ := iv
      rw [List.take_length] at hkr
      refine ⟨G8, ⟨lpm.st, lp8.ex.trans lpm.ex, fun a ob u h => lpm.fz a ob u (lp8.fz a ob u h)⟩, _, _, _, _, _, _, setW rw' q.1 r, rfl, eG.trans eG8, own8, fun z hz => ?_, fun z hz => ?_⟩
      · have zne : z ∈ R.take j → z.1 ≠ q.1 := fun hz w => by
          have := valD_none.mp (valD_take_none ndR hq)
          exact this (List.mem_map.mpr ⟨z, hz, w⟩)
        rw [take_snoc hq] at hz
        rcases List.mem_append.mp hz with hz | hz
        · rw [setW_ne (zne hz)]; exact hdone z hz
        · rw [List.mem_singleton.mp hz, setW_same]
          exact rowG_of og.nd ogf.nd efs hkr okr
      · have zd : z ∈ R.drop j := List.mem_of_mem_drop (i := 1) (by rw [List.drop_drop]; exact hz)
        have zne : z.1 ≠ q.1 := fun w => by
          have hz' : z.1 ∈ (R.map (·.1)).drop (j + 1) := by rw [← List.map_drop]; exact List.mem_map.mpr ⟨z, hz, rfl⟩
          have e1 : (R.map (·.1))[j]? = some q.1 := by rw [List.getElem?_map, hq]; rfl
          obtain ⟨x, hx, ex⟩ := List.mem_iff_getElem.mp hz'
          rw [List.getElem_drop] at ex
          obtain ⟨h1, h2⟩ := List.getElem?_eq_some_iff.mp e1
          rw [List.length_drop] at hx
          have := (List.getElem_inj (h₀ := by omega) (h₁ := h1) ndR).mp (ex.trans (w.trans h2.symm))
          omega
        rw [setW_ne zne]; exact htodo z zd
  · obtain ⟨v9, v10, v11, v12, v13, v14, rw', rfl, eG, own, hdone, _⟩ := iv
    rw [List.take_length] at hdone
    refine nxE _ G6 H6 lp fun H7 s7 h7d h7o => ?_
    dsimp only
    refine s_ret s7.sub (gv_var rfl) fun H8 e8 => ?_
    have ek := rwOf_keys R rw'
    refine k Pd (wo [Pd] G6) H8 (rwOf R rw') pa ra (s7.grow e8) ⟨?_, fun z hz => ?_, fun z hz => ?_⟩ ⟨st3.keep.free hO.d0, wo_in (List.mem_singleton.mpr rfl), fun i hi => ?_, fun i hi => ?_, ?_, ?_⟩ ⟨by rw [ek]; exact ndR, fun z hz => ?_, fun z hz => ?_, by unfold rwOf; rw [List.length_map]; exact l10⟩
    · rw [e8 _ _ h7d, ← hkv]
      unfold rwOf
      rw [List.map_map]
      rfl
    · obtain ⟨q, hq, rfl⟩ := List.mem_map.mp hz
      have := eG _ _ (hdat q hq)
      rw [wo_out]
      · exact this
      · intro w
        rw [List.mem_singleton] at w
        have h2 := eG _ _ hPdT
        rw [← w] at h2
        rw [show pa q.1 = pa (q.1, q.2.1, rw' q.1).1 from rfl] at this
        rw [this] at h2; cases h2
    · obtain ⟨q, hq, rfl⟩ := List.mem_map.mp hz
      have iq := ids_in q hq
      exact e8 _ _ (by rw [h7o _ (hO.ne _ iq)]; exact (own _ iq).at_)
    · rw [ek] at hi; exact (own i hi).h0
    · rw [ek] at hi; rw [wo_out (by simpa using hO.ne i hi)]; exact (own i hi).g
    · rw [ek]; exact hO.inj
    · rw [ek]; exact hO.ne
    · obtain ⟨q, hq, rfl⟩ := List.mem_map.mp hz
      exact nmR _ (ids_in q hq)
    · obtain ⟨q, hq, rfl⟩ := List.mem_map.mp hz
      exact hdone q hq
end
end K25

/-! F31 -/
namespace K25
open PySem PySem.Spec PyProof.Rows L2
/-! ### tables of the rows -/
section
variable {K : PySem.W.Frag} {σ : L2.St} {G G0 H H0 : Hp} {D : Ends}
/-- x[t, i] = a new row, read in a wider view -/
theorem s_asgTabV {CS CT : Addr} {tv t6 t7 t8 : TE} {s x k' : Addr} {ad' : Str → Addr} {tb : Tbs} {rs : List Rul} {R' : Rws} {t i : Str} {fs : Flds} {r : Row} {Gw : Hp} (sG : Sub G H) (sW : Sub Gw H) (val : Gn (.dK (rowK r)) tv σ Gw) (ht : t ∈ tb.map (·.1))
    (h6 : ∀ G', Gv t6 σ G' (.ref x)) (h8 : ∀ G', Gv t8 σ G' (.str t)) (h7 : ∀ G', Gv t7 σ G' (.str i)) (hT' : TabX CT G H x s tb R' k' ad') (ado : AdO H0 G ad' tb) (hS : SchAt CS G s tb rs) (oT : TbsOk tb) (cT : CanT tb) (oR' : RwOk tb R')
    (e1 : valD tb t = some fs) (oC : RowC fs r) (nI : Nm i) (hI : ∀ q ∈ R', q.1 = i → q.2.1 = t)
    (k : ∀ G' H', Stp G (wo [ad' t] H) G' H' → AdO H0 G' ad' tb → TabX CT G' H' x s tb (putD R' i (t, r)) k' ad' → D.nx σ H') : tAsg tv (gSub t6 (tTup (tCons t8 (tCons t7 tNil))) (rSetOwn CT (spSetItem CS CT))) D σ H := by
  obtain ⟨dx', hi'⟩ := hT'.ins
  refine val H sW _ fun b H1 e1' hb hb' => ?_
  have gb := sG.non hb
  have wob : ∀ {c}, H c = none → wo [ad' t] H c = none := fun {c} h => by unfold wo; split <;> first | rfl | exact h
  have stb : Stp G (wo [ad' t] H) (upd G b (.dK (rowK r))) H1 := ((Stp.wo sG).grow e1').tell gb (wob hb) hb'
  have eb : Same G (upd G b (.dK (rowK r))) := Same.put gb
  refine h6 _ H1 stb.sub _ fun H2 e2 => ?_
  have tup : Gu (tTup (tCons t8 (tCons t7 tNil))) σ (upd G b (.dK (rowK r))) [.str t, .str i] := gu_tup (ga_cons (h8 _) (ga_cons (h7 _) ga_nil)) (few rfl)
  refine tup H2 (stb.sub.same e2) _ fun p H3 e3 hp hp' => ?_
  have e03 := (e1'.trans e2).trans e3
  have st2 := stb.grow e2
  have gp := st2.sub.non hp
  have hp0 : H p = none := (e1'.trans e2).free hp
  have st3 : Stp G (wo [ad' t] H) (upd (upd G b (.dK (rowK r))) p (.tup [.str t, .str i])) H3 := (st2.grow e3).tell gp (wob hp0) hp'
  have nn : ∀ u ∈ tb.map (·.1), H (ad' u) ≠ none := fun u hu => by obtain ⟨kvs, e, _⟩ := hT'.inn u hu; rw [e]; simp
  have np : ∀ u ∈ tb.map (·.1), ad' u ≠ p ∧ ad' u ≠ b := fun u hu => ⟨fun z => nn u hu (by rw [z]; exact hp0), fun z => nn u hu (by rw [z]; exact hb)⟩
  have hg3 : ∀ u ∈ tb.map (·.1), (upd (upd G b (.dK (rowK r))) p (.tup [.str t, .str i])) (ad' u) = none := fun u hu => by
    rw [upd_ne (np u hu).1, upd_ne (np u hu).2]
    exact ado.g u hu
  have hT3 : TabX CT (upd (upd G b (.dK (rowK r))) p (.tup [.str t, .str i])) H3 x s tb R' k' ad' := hT'.mono st3.ex fun u hu o e => e03 _ _ e
  have pb : b ≠ p := fun z => by rw [← z, e2 _ _ hb'] at hp; cases hp
  refine ⟨x, dx', _, rfl, st3.sub.ins (st3.ex _ _ hi'), x, p, b, t, i, r, fs, s, tb, rs, R', k', ad', _, rfl, st3.sub, upd_same, by rw [upd_ne pb]; exact upd_same, hT3, hg3, hS.mono st3.ex, oT, cT, oR', e1, oC, nI, hI, fun G' H' st hg2 hk => ?_⟩
  have stF := st3.mut (fun m hm => wo_in hm) st
  refine k G' H' stF ⟨ado.h0, fun u hu => ?_, ado.inj⟩ (hT'.put ht ado.inj hI stF hk)
  by_cases eu : u = t
  · subst eu; exact hg2
  · refine stF.new _ (ado.g u hu) ?_
    rw [wo_out (by simpa using fun z => eu (ado.inj u hu t ht z))]
    exact nn u hu
theorem TabX.untD {C a s k d : Addr} {tb : Tbs} {R : Rws} {ad : Str → Addr} {kvP : List (Key × V)} (h : TabX C G H a s tb R k ad) (hd : G d = some (.dK kvP)) (h1 : ∀ kv ∈ kvP, ∃ p, kv.2 = .ref p ∧ G p ≠ none) (h2 : R ≠ [] → kvP ≠ []) (lo : 1 ≤ tb.length) (ha : ∀ t ∈ tb.map (·.1), G (ad t) = none) : TabX C (wo [d] G) H a s tb R k ad := by
  have out : ∀ {x o}, G x = some o → (o = .dK kvP → False) → wo [d] G x = some o := fun {x o} e n => by
    rw [wo_out]
    · exact e
    · intro z
      rw [List.mem_singleton] at z
      rw [z, hd] at e
      exact n (Option.some.inj e).symm
  refine ⟨?_, out h.kept fun z => ?_, fun t ht => ?_⟩
  · obtain ⟨dx, e⟩ := h.ins
    exact ⟨dx, out e fun z => nomatch z⟩
  · cases tb with
    | nil => simp at lo
    | cons t tb =>
      have e := (HO.dK.inj z).symm
      obtain ⟨p, e2, e3⟩ := h1 (Sum.inr t.1, .ref (ad t.1)) (by rw [e]; exact List.mem_cons_self)
      cases e2
      exact e3 (ha t.1 List.mem_cons_self)
  · obtain ⟨kvs, e1, e2⟩ := h.inn t ht
    refine ⟨kvs, e1, e2.imp fun kv q _ hq r => ⟨r.1, ?_⟩⟩
    obtain ⟨b, eb, hb⟩ := r.2
    refine ⟨b, eb, out hb fun z => ?_⟩
    have ne : R ≠ [] := fun w => by rw [w] at hq; cases hq
    have e := (HO.dK.inj z)
    cases hk : kvP with
    | nil => exact h2 ne hk
    | cons kv0 l =>
      obtain ⟨p, e4, _⟩ := h1 kv0 (by rw [hk]; exact List.mem_cons_self)
      have m : kv0 ∈ rowK q.2 := by rw [e, hk]; exact List.mem_cons_self
      obtain ⟨y, _, ey⟩ := List.mem_map.mp m
      rw [← ey] at e4
      have e4 : ov y.2 = .ref p := e4
      cases hy : y.2 with
      | none => rw [hy] at e4; cases e4
      | some s => rw [hy] at e4; cases e4
end
theorem rwOk_take {tb : Tbs} {R : Rws} (h : RwOk tb R) (j : Nat) : RwOk tb (R.take j) :=
  ⟨by rw [List.map_take]; exact h.nd.sublist (List.take_sublist _ _), fun q hq => h.nm q (List.mem_of_mem_take hq), fun q hq => h.ok q (List.mem_of_mem_take hq), Nat.le_trans (by rw [List.length_take]; exact Nat.min_le_right _ _) h.len⟩
section
variable {P : Program} {w : World} {K : PySem.W.Frag} {mg : Str → Option Value} {base : Heap}
def spLTables (CS CT : Addr) : Sp := fun vs H Q _ => ∃ s d tb rs R pa ra G H1, vs = [.ref s, .ref d] ∧ Sub G H ∧ SchAt CS G s tb rs ∧ TbsOk tb ∧ CanT tb ∧ RwOk tb R ∧ RowsX G H d R pa ra ∧ RowsO H1 G d (R.map (·.1)) ra ∧
  ∀ x G' H' k ad, Stp G H G' H' → TabX CT G' H' x s tb R k ad → AdO H G' ad tb → Q (.ref x) H'
abbrev N_w_tables : List Str := ["_law_schema", "_law_rows_here", "_law_found", "_law_ident", "_law_table", "_law_row"]
theorem sc_w_tables : FnScope N_w_tables ["_law_schema", "_law_rows_here"] (defScope s_w_tables) := ⟨rfl, rfl, rfl, by decide +kernel, rfl, by decide +kernel, by decide +kernel⟩
-- slots: 0 _law_schema, 1 _law_rows_here, 2 _law_found, 3 _law_ident, 4 _law_table, 5 _law_row
theorem c_w_tables (T : Tx K mg) : Cal P w K mg base 6 "_law_tables" (spLTables (He.ga K "Schema") (He.ga K "Tables")) := by
  refine ⟨_, _, ["_law_schema", "_law_rows_here"], fn_body T.f_w_tables sc_w_tables (fun vs H Q E h => by obtain ⟨_, _, _, _, _, _, _, _, _, rfl, _⟩ := h; rfl) (fun cdv A outer s H vs Q E hr h => ?_), T.g_w_tables, T.f_w_tables.kp, T.f_w_tables.bindsN fun _ _ _ _ _ _ us hl => match us, hl with | [_, _], _ => rfl⟩
  obtain ⟨sc, d, tb, rs, R, pa, ra, G, Hx, rfl, sG, hS, oT, cT, oR, hX, hO, k⟩ := h
  have hu := hu_of hr
  refine ⟨_,
    (pss_cons (ps_set (i := 2) sc_w_tables.nd rfl (Or.inl rfl) (pe_mak (k_Tables T) hr (by decide) rfl (pa_cons (pv 0) pa_nil)))
    (pss_cons (ps_lkS (ps_for PassesOwn.never rfl (pi_keys (pv 1)) (pg_name (i := 3) sc_w_tables.nd rfl (Or.inl rfl))
      (pss_cons (ps_asg (pe_dget hu (pv 1) (pv 3) (fun _ _ => rfl)) (pg_tupK (n := 2) rfl rfl (pgs_cons (pg_name (i := 4) sc_w_tables.nd rfl (Or.inl rfl)) (pgs_cons (pg_name (i := 5) sc_w_tables.nd rfl (Or.inl rfl)) pgs_nil))))
      (pss_one (ps_asg (pe_callTy cr_dictD (by rfl) T.b_dict (by decide +kernel) (pa_cons (pv 5) pa_nil)) (pg_sub (pv 2) (pe_tup (pa_cons (pv 4) (pa_cons (pv 3) pa_nil))) (set_own (c_Tables_setitem T) hr (by decide) T.noSeq)))))))
    (pss_one (ps_ret (pv 2))))), ?_⟩
  have ids_in : ∀ q ∈ R, q.1 ∈ R.map (·.1) := fun q hq => List.mem_map.mpr ⟨q, hq, rfl⟩
  have nd := oR.nd
  have l10 := oR.len
  -- what belongs to the rows is as if it were one's own
  obtain ⟨M, hM⟩ : ∃ M, M = d :: (R.map (·.1)).map ra := ⟨_, rfl⟩
  have dM : d ∈ M := by rw [hM]; exact List.mem_cons_self
  have rM : ∀ i ∈ R.map (·.1), ra i ∈ M := fun i hi => by rw [hM]; exact List.mem_cons_of_mem _ (List.mem_map.mpr ⟨i, hi, rfl⟩)
  have st0 : Stp G (wo M H) G H := Stp.wo sG
  have woN : ∀ {c}, H c = none → wo M H c = none := fun {c} h => by unfold wo; split <;> first | rfl | exact h
  have gM : ∀ m ∈ M, G m = none := fun m hm => by
    rw [hM] at hm
    rcases List.mem_cons.mp hm with rfl | hm
    · exact hO.dg
    · obtain ⟨i, hi, rfl⟩ := List.mem_map.mp hm; exact hO.rg i hi
  refine q_setTab sG (gv_var rfl) hS oT fun x kk ad G1 H1 s1 hT adO => ?_
  have st1 := st0.trans s1
  have adF : AdO (wo M H) G1 ad tb := ⟨fun t ht => woN (adO.h0 t ht), adO.g, adO.inj⟩
  have hD : Own (wo M H) G d H (.dK (R.map fun q => (Sum.inr q.1, V.ref (pa q.1)))) := ⟨wo_in dM, hO.dg, hX.dict⟩
  have hD1 := hD.step s1
  have hR1 : ∀ q ∈ R, Own (wo M H) G1 (ra q.1) H1 (.dK (rowK q.2.2)) := fun q hq => Own.step ⟨wo_in (rM _ (ids_in q hq)), hO.rg _ (ids_in q hq), hX.row q hq⟩ s1
  have adM : ∀ t ∈ tb.map (·.1), ad t ∉ M := fun t ht hm => by
    have h0 := adO.h0 t ht
    rw [hM] at hm
    rcases List.mem_cons.mp hm with e | hm
    · rw [e, hX.dict] at h0; cases h0
    · obtain ⟨i, hi, e⟩ := List.mem_map.mp hm
      obtain ⟨q, hq, rfl⟩ := List.mem_map.mp hi
      rw [← e, hX.row q hq] at h0; cases h0
  have vP : ∀ q ∈ R, valV (R.map fun q => ((Sum.inr q.1 : Key), V.ref (pa q.1))) (Sum.inr q.1) = some (.ref (pa q.1)) := fun q hq => valV_of_nodup (by rw [List.map_map]; exact List.pairwise_map.mpr ((List.pairwise_map.mp nd).imp fun h z => h (Sum.inr.inj z))) (List.mem_map.mpr ⟨q, hq, rfl⟩)
  have vR : ∀ kv ∈ (R.map fun q => ((Sum.inr q.1 : Key), V.ref (pa q.1))), ∃ p, kv.2 = .ref p ∧ G p ≠ none := fun kv hkv => by
    obtain ⟨q, hq, rfl⟩ := List.mem_map.mp hkv
    exact ⟨_, rfl, by rw [hX.tup q hq]; simp⟩
  have vN : R ≠ [] → (R.map fun q => ((Sum.inr q.1 : Key), V.ref (pa q.1))) ≠ [] := fun h z => h (List.map_eq_nil_iff.mp z)
  generalize hkv : (R.map fun q => ((Sum.inr q.1 : Key), V.ref (pa q.1))) = kvP at *
  refine q_of (s_lkO (a := d) (kvs := kvP) st1 hD1.g hD1.h0 hD1.at_ fun H5 D1 st5 lkk hother nxE rtE => ?_)
  have ed : Same G1 (upd G1 d (.dK kvP)) := Same.put hD1.g
  have hdT : (upd G1 d (.dK kvP)) d = some (.dK kvP) := upd_same
  have adD : ∀ t ∈ tb.map (·.1), ad t ≠ d := fun t ht z => adM t ht (by rw [z]; exact dM)
  have hR5 : ∀ q ∈ R, Own (wo M H) (upd G1 d (.dK kvP)) (ra q.1) H5 (.dK (rowK q.2.2)) := fun q hq => ⟨(hR1 q hq).h0, by rw [upd_ne (hO.ne _ (ids_in q hq))]; exact (hR1 q hq).g, by rw [hother _ (hO.ne _ (ids_in q hq))]; exact (hR1 q hq).at_⟩
  have hT5 : TabX (He.ga K "Tables") (upd G1 d (.dK kvP)) H5 x sc tb [] kk ad := hT.mono ed fun t ht o e => by rw [hother _ (adD t ht)]; exact e
  have ad5 : AdO (wo M H) (upd G1 d (.dK kvP)) ad tb := ⟨adF.h0, fun t ht => by rw [upd_ne (adD t ht)]; exact adF.g t ht, adF.inj⟩
  generalize upd G1 d (.dK kvP) = G5 at *
  have eG5 : Same G G5 := s1.ex.trans ed
  refine s_for (Pre := Lk d kvP) (G0 := G) (H0 := wo M H) (ds := R) (up := upN 3 fun q => .str q.1) (Iv := fun (j : Nat) σ2 G6 H6 => ∃ v3 v4 v5, σ2 = [some (.ref sc), some (.ref d), some (.ref x), v3, v4, v5] ∧ Same G5 G6 ∧ (∀ q ∈ R, Own (wo M H) G6 (ra q.1) H6 (.dK (rowK q.2.2))) ∧ TabX (He.ga K "Tables") G6 H6 x sc tb (R.take j) kk ad ∧ AdO (wo M H) G6 ad tb)
    st5 (gi_keys (kf := fun q : Str × (Str × Row) => ((Sum.inr q.1 : Key), V.ref (pa q.1))) (gv_var rfl) hkv.symm) lkk (by
      rintro _ _ _ _ _ e ⟨v3, v4, v5, h1, h2, h3, h4, h5⟩
      exact ⟨v3, v4, v5, h1, h2, fun q hq => (h3 q hq).grow e, h4.grow e, h5⟩) (fun G6 H6 s6 => ⟨_, _, _, rfl, s6.ex, fun q hq => (hR5 q hq).step s6, hT5.mut (M := []) (fun _ _ => by simp) (by rw [wo_nil]; exact s6), ad5.mut (M := []) hT5 (fun _ _ => by simp) (by rw [wo_nil]; exact s6)⟩) (fun G6 H6 s6 j q hq σ2 G7 H7 lp iv => ?_) fun G6 H6 σ2 lp iv => ?_
  · obtain ⟨v3, v4, v5, rfl, eG, own, hT7, ad7⟩ := iv
    have qm := List.mem_of_getElem? hq
    have iq := ids_in q qm
    obtain ⟨fs, e1, oC⟩ := oR.ok q qm
    have ht : q.2.1 ∈ tb.map (·.1) := oR.tab qm
    refine q_two lp.st.sub (gv_dget (k := Sum.inr q.1) (gv_var rfl) (gv_var rfl) (eG _ _ hdT) (vP q qm)) (eG _ _ (eG5 _ _ (hX.tup q qm))) fun H8 e8 => ?_
    have lp8 := lp.grow e8
    have own8 := fun z hz => (own z hz).grow e8
    have hT8 := hT7.grow e8
    have nI : q.1 ∉ (R.take j).map (·.1) := valD_none.mp (valD_take_none nd hq)
    refine s_asgTabV (H0 := wo M H) lp8.st.sub (sub_told lp8.st.sub (own8 q qm).at_) (gd_dictD (gv_var rfl) upd_same) ht (fun _ => gv_var rfl) (fun _ => gv_var rfl) (fun _ => gv_var rfl) hT8 ad7 ((hS.mono eG5).mono eG) oT cT (rwOk_take oR j) e1 oC (oR.nm q qm) (fun z hz e => absurd (List.mem_map.mpr ⟨z, hz, e⟩) nI) fun G9 H9 s9 ad9 hT9 => ?_
    refine ⟨G9, lp8.mut (M := [ad q.2.1]) (fun m hm => by rw [List.mem_singleton.mp hm]; exact ad7.h0 _ ht) (fun m hm ob u => by
      rw [List.mem_singleton.mp hm]
      obtain ⟨kvs, ek, _⟩ := hT8.inn _ ht
      rw [show H8 (ad q.2.1) = _ from ek]; simp) s9, _, _, _, rfl, eG.trans s9.ex, fun z hz => (own8 z hz).mut (M := [ad q.2.1]) (by simpa using fun w => adM _ ht (by rw [← w]; exact rM _ (ids_in z hz))) s9, ?_, ad9⟩
    have : putD (R.take j) q.1 (q.2.1, q.2.2) = R.take (j + 1) := by
      unfold putD
      rw [if_neg nI, take_snoc hq]
    rw [← this]
    exact hT9
  · obtain ⟨v3, v4, v5, rfl, eG, own, hT6, ad6⟩ := iv
    rw [List.take_length] at hT6
    refine nxE _ G6 H6 lp fun H7 s7 h7d h7o => ?_
    dsimp only
    refine s_ret s7.sub (gv_var rfl) fun H8 e8 => ?_
    have s8 := s7.grow e8
    have hTF : TabX (He.ga K "Tables") (wo [d] G6) H8 x sc tb R kk ad := (hT6.untD (eG _ _ hdT) (fun kv hkv => let ⟨p, z1, z2⟩ := vR kv hkv; ⟨p, z1, fun z => z2 (by
      cases e : G p with
      | none => rfl
      | some o => rw [(eG5.trans eG) _ _ e] at z; cases z)⟩) vN oT.lo ad6.g).mono (Same.refl _) fun t ht o e => e8 _ _ (by rw [h7o _ (adD t ht)]; exact e)
    have stF : Stp G H (wo [d] G6) H8 := ⟨s8.ex, s8.sub, fun a o e => ?_, fun a e1 e2 => ?_⟩
    · exact k x _ H8 kk ad stF hTF ⟨adO.h0, fun t ht => by rw [wo_out (by simpa using adD t ht)]; exact ad6.g t ht, adO.inj⟩
    · by_cases m : a ∈ M
      · rw [hM] at m
        rcases List.mem_cons.mp m with rfl | m
        · rw [hX.dict, hkv] at e
          rw [← e]
          exact e8 _ _ h7d
        · obtain ⟨i, hi, rfl⟩ := List.mem_map.mp m
          obtain ⟨q, hq, rfl⟩ := List.mem_map.mp hi
          rw [hX.row q hq] at e
          rw [← e]
          exact e8 _ _ (by rw [h7o _ (hO.ne _ hi)]; exact (own q hq).at_)
      · exact s8.keep a o (by rw [wo_out m]; exact e)
    · by_cases m : a ∈ M
      · rw [hM] at m
        rcases List.mem_cons.mp m with rfl | m
        · exact wo_in (List.mem_singleton.mpr rfl)
        · obtain ⟨i, hi, rfl⟩ := List.mem_map.mp m
          obtain ⟨q, hq, rfl⟩ := List.mem_map.mp hi
          rw [wo_out (by simpa using hO.ne _ hi)]
          exact (own q hq).g
      · exact s8.new a e1 (by rw [wo_out m]; exact e2)
end
end K25

/-! F32 -/
namespace K25
open PySem PySem.Spec PyProof.Rows L2
/-! ### the rows of tables, as a dict -/
theorem flat_congr {α β : Type} {f g : α → List β} : ∀ {l : List α}, (∀ a ∈ l, (f a).Perm (g a)) → (l.flatMap f).Perm (l.flatMap g)
  | [], _ => .nil
  | a :: l, h => by
    rw [List.flatMap_cons, List.flatMap_cons]
    exact (h a List.mem_cons_self).append (flat_congr fun x hx => h x (List.mem_cons_of_mem _ hx))
theorem part_perm {α : Type} {f : α → Str} : ∀ {R : List α} {ts : List Str}, ts.Nodup → (∀ q ∈ R, f q ∈ ts) → (ts.flatMap fun t => R.filter fun q => decide (f q = t)).Perm R
  | [], ts, _, _ => by
    have : (ts.flatMap fun t => ([] : List α).filter fun q => decide (f q = t)) = [] := List.flatMap_eq_nil_iff.mpr fun t _ => rfl
    rw [this]
  | q :: R, ts, nd, h => by
    obtain ⟨l1, l2, e⟩ := List.append_of_mem (h q List.mem_cons_self)
    subst e
    have hn : ∀ t ∈ l1 ++ l2, t ≠ f q := fun t ht e => by
      rw [List.perm_middle.nodup_iff, List.nodup_cons] at nd
      exact nd.1 (e ▸ ht)
    have ih := part_perm (R := R) nd fun x hx => h x (List.mem_cons_of_mem _ hx)
    have same : ∀ l : List Str, (∀ t ∈ l, t ≠ f q) → (l.flatMap fun t => (q :: R).filter fun q => decide (f q = t)) = l.flatMap fun t => R.filter fun q => decide (f q = t) := fun l hl => by
      induction l with
      | nil => rfl
      | cons t l ih2 =>
        rw [List.flatMap_cons, List.flatMap_cons, ih2 fun x hx => hl x (List.mem_cons_of_mem _ hx), List.filter_cons, if_neg (by simpa using fun z => hl t List.mem_cons_self z.symm)]
    rw [List.flatMap_append, List.flatMap_cons] at ih ⊢
    rw [same l1 fun t ht => hn t (List.mem_append_left _ ht), same l2 fun t ht => hn t (List.mem_append_right _ ht), List.filter_cons, if_pos (by simp), List.cons_append]
    exact List.perm_middle.trans (ih.cons _)
def flatT (R : Rws) (t : Str) : Rws := (srtD (tOf R t)).map fun q => (q.1, (t, q.2))
def flatR (tb : Tbs) (R : Rws) : Rws := tb.flatMap fun t => flatT R t.1
theorem flatT_perm (R : Rws) (t : Str) : (flatT R t).Perm (R.filter fun q => decide (q.2.1 = t)) := by
  unfold flatT
  refine ((srtD_perm _).map _).trans ?_
  unfold tOf
  rw [List.map_map]
  have : (R.filter fun q => decide (q.2.1 = t)).map ((fun q : Str × Row => (q.1, (t, q.2))) ∘ fun q : Str × (Str × Row) => (q.1, q.2.2)) = R.filter fun q => decide (q.2.1 = t) := by
    conv => rhs; rw [← List.map_id (R.filter fun q => decide (q.2.1 = t))]
    refine List.map_congr_left fun q hq => ?_
    have e : q.2.1 = t := of_decide_eq_true (List.mem_filter.mp hq).2
    show (q.1, (t, q.2.2)) = q
    rw [← e]
  rw [this]
theorem flatR_perm {tb : Tbs} {R : Rws} (nd : (tb.map (·.1)).Nodup) (h : ∀ q ∈ R, q.2.1 ∈ tb.map (·.1)) : (flatR tb R).Perm R := by
  unfold flatR
  refine (flat_congr fun t _ => flatT_perm R t.1).trans ?_
  have := part_perm (f := fun q : Str × (Str × Row) => q.2.1) nd h
  rw [List.flatMap_map] at this
  exact this
def EntV : RelD (Str × Row) := fun v z G => ∃ p b, v = .ref p ∧ G p = some (.tup [.str z.1, .ref b]) ∧ G b = some (.dK (rowK z.2))
theorem ent_mono : MonD EntV := fun v z G G' e ⟨p, b, h1, h2, h3⟩ => ⟨p, b, h1, e _ _ h2, e _ _ h3⟩
theorem all2_app {α β : Type} {R : α → β → Prop} {l l' : List α} {m m' : List β} (h : All2 R l m) (h' : All2 R l' m') : All2 R (l ++ l') (m ++ m') := by
  induction h with
  | nil => exact h'
  | cons r _ ih => exact .cons r ih
theorem all2_flip {α β γ : Type} {R : β → γ → Prop} {f : α → γ} {l : List α} {m : List β} (h : All2 (fun d v => R v (f d)) l m) : All2 R m (l.map f) := by
  induction h with
  | nil => exact .nil
  | cons r _ ih => exact .cons r ih
section
variable {K : PySem.W.Frag} {σ : L2.St} {G H : Hp} {D : Ends} {ta te : TE} {a : Addr} {kvs : List (Key × V)} {Φ : V → Hp → Prop}
theorem s_dupd (s : Sub G H) (ho : Gv ta σ G (.ref a)) (ha : H a = some (.dK kvs)) (hv : Ge te σ G Φ) (h : ∀ v G1 H1, Stp G H G1 H1 → Φ v G1 → ∃ b more, v = .ref b ∧ a ≠ b ∧ Rd H1 b (.dK more) ∧ kvs.length + more.length ≤ 100000 ∧ D.nx σ (upd H1 a (.dK (mergeK kvs more)))) : tDrop (tDUpd ta te) D σ H :=
  ho H s _ fun H1 e1 => ⟨a, rfl, .inl ⟨kvs, .inl (e1 _ _ ha)⟩, hv H1 (s.same e1) trivial _ fun v G2 H2 st f => by
    obtain ⟨b, more, rfl, ne, hb, hl, q⟩ := h v G2 H2 (st.pre e1) f
    exact ⟨b, kvs, more, rfl, ne, st.keep _ _ (e1 _ _ ha), hb, by rw [sizeLine_eq]; omega, q⟩⟩
end
section
variable {P : Program} {w : World} {K : PySem.W.Frag} {mg : Str → Option Value} {base : Heap}
def spRowsOf (CS CT : Addr) : Sp := fun vs H Q _ => ∃ a s tb rs R k ad G, vs = [.ref a] ∧ Sub G H ∧ TabX CT G G a s tb R k ad ∧ SchAt CS G s tb rs ∧ TbsOk tb ∧ RwOk tb R ∧
  ∀ p G' H' kvs, Stp G H G' H' → G' p = some (.dK kvs) → PrD EntV G' kvs (flatR tb R) → Q (.ref p) H'
abbrev N_w_rows_of : List Str := ["_law_tables_here", "_law_found", "_law_table", "_law_rows_here", "_law_ident"]
theorem sc_w_rows_of : FnScope N_w_rows_of ["_law_tables_here"] (defScope s_w_rows_of) := ⟨rfl, rfl, rfl, by decide +kernel, rfl, by decide +kernel, by decide +kernel⟩
-- slots: 0 _law_tables_here, 1 _law_found, 2 _law_table*, 3 _law_rows_here*, 4 _law_ident
theorem c_w_rows_of (T : Tx K mg) : Cal P w K mg base 3 "_law_rows_of" (spRowsOf (He.ga K "Schema") (He.ga K "Tables")) := by
  refine ⟨_, _, ["_law_tables_here"], fn_body T.f_w_rows_of sc_w_rows_of (fun vs H Q E h => by obtain ⟨_, _, _, _, _, _, _, _, rfl, _⟩ := h; rfl) (fun cdv A outer s H vs Q E hr h => ?_), T.g_w_rows_of, T.f_w_rows_of.kp, T.f_w_rows_of.bindsN fun _ _ _ _ _ _ us hl => match us, hl with | [_], _ => rfl⟩
  obtain ⟨a, s', tb, rs, R, kk, ad, G, rfl, sG, hT, hS, oT, oR, k⟩ := h
  have hu := hu_of hr
  refine ⟨_,
    (pss_cons (ps_set (i := 1) sc_w_rows_of.nd rfl (Or.inl rfl) pe_dnewK)
    (pss_cons (ps_for PassesOwn.never rfl (pi_listK rfl (pe_met0 (c_Schema_tables T) hr (by decide) (pe_propR (c_Tables_schema T) hr (by decide) (pv 0) rfl))) (pg_name (i := 2) sc_w_rows_of.nd rfl (Or.inr rfl))
      (pss_cons (ps_set (i := 3) sc_w_rows_of.nd rfl (Or.inr rfl) (pe_met (c_Tables_rows T) hr (by decide) (pv 0) (pa_cons (pv 2) pa_nil)))
      (pss_one (ps_expr (pe_dupd (pv 1) (pe_callTy (call_dictP rfl) (by rfl) T.b_dict (by decide +kernel) (pa_cons (pe_lk (pe_lc rfl sc_w_rows_of.nd (pi_keys (pv 3)) (blkOk_by (own := [("_law_ident", 4)]) (N := N_w_rows_of) (sc := defScope s_w_rows_of) (by decide +kernel)) (fun _ _ _ _ _ => (pg_name (i := 4) sc_w_rows_of.nd rfl (Or.inl rfl))) (fun _ _ _ _ _ => pts_nil) (fun _ _ _ _ _ => (pe_tup (pa_cons (pv 4) (pa_cons (pe_tup (pa_cons (pv 2) (pa_cons (pe_dget hu (pv 3) (pv 4) (fun _ _ => rfl)) pa_nil))) pa_nil)))))) pa_nil)) ⟨rfl, by rfl, by rfl, by rfl⟩)))))
    (pss_one (ps_ret (pv 1))))), ?_⟩
  obtain ⟨dx, hi⟩ := id hT.ins
  obtain ⟨ds, d, l, hs, _⟩ := id hS
  have tb3 := oT.hi
  have l10 := oR.len
  have fp := flatR_perm oT.nd fun q hq => oR.tab hq
  have fnd : ((flatR tb R).map (·.1)).Nodup := (fp.map _).nodup_iff.mpr oR.nd
  refine q_setN sG gd_new fun fd H1 e1 hf hf' => ?_
  have st1 := (Stp.refl sG).grow e1
  have ow1 : Own H G fd H1 (.dK []) := .made (Stp.refl sG) e1 hf hf'
  refine q_of (s_for (Pre := Fr0) (G0 := G) (H0 := H) (ds := tb) (up := upN 2 fun o => .str o.1) (Iv := fun (j : Nat) σ2 G5 H5 => ∃ v2 v3 kvs, σ2 = [some (.ref a), some (.ref fd), v2, v3, none] ∧ Same G G5 ∧ Own H G5 fd H5 (.dK kvs) ∧ PrD EntV G5 kvs (flatR (tb.take j) R))
    st1 ((gi_listN (ds := tb.map (·.1)) (emb := V.str) (gn_meth (gv_sch T hT (gv_var rfl)) hs rfl ga_nil fun H sb Q E q => ⟨s', tb, rs, G, rfl, sb, hS, q⟩)).from_ (fun o => o.1) rfl fun _ _ _ => rfl) trivial (by
      rintro _ _ _ _ _ e ⟨v2, v3, kvs, h1, h2, h3, h4⟩
      exact ⟨v2, v3, kvs, h1, h2, h3.grow e, h4⟩) (fun G5 H5 s5 => ⟨_, _, [], rfl, s5.ex, ow1.step s5, .nil⟩) (fun G5 H5 s5 j o ho σ2 G6 H6 lp iv => ?_) fun G6 H6 σ2 lp iv => ?_)
  · obtain ⟨v2, v3, kvs, rfl, eG, own, hp⟩ := iv
    have om := List.mem_of_getElem? ho
    have hoT : o.1 ∈ tb.map (·.1) := List.mem_map.mpr ⟨o, om, rfl⟩
    have hT6 := hT.mono eG fun _ _ _ h => eG _ _ h
    refine q_setX lp.st.sub (ge_meth (gv_var rfl) (eG _ _ hi) rfl (ga_cons (gv_var rfl) ga_nil) (sx_rows hT6 hoT oR)) fun v G7 H7 s7 hv => ?_
    obtain ⟨rd, rkv, rfl, hrd, hrp⟩ := hv
    have lp7 := lp.step s7
    have own7 := own.step s7
    have lo : (srtD (tOf R o.1)).length ≤ 10 := by rw [srtD_len]; exact Nat.le_trans (tOf_len R o.1) l10
    have ndo := srtD_nodup (tOf_nodup oR.nd o.1)
    have lkv : kvs.length ≤ 10 := by
      have h1 := hp.length
      have h2 : (flatR (tb.take j) R).length ≤ (flatR tb R).length := by
        conv => rhs; unfold flatR; rw [← List.take_append_drop j tb, List.flatMap_append]
        rw [List.length_append]
        unfold flatR
        omega
      rw [fp.length_eq] at h2
      omega
    refine s_dupd lp7.st.sub (gv_var rfl) own7.at_ (ge_dictP (ds := srtD (tOf R o.1)) (fun q => q.1) (fun q v G' => EntV v (o.1, q.2) G') (fun _ _ _ _ e h => ent_mono _ _ _ _ e h) ndo (gm_lk hrd (gm_imp (gm_lc (Pre := Lk rd rkv) (pf := fun _ => true) (ds := srtD (tOf R o.1)) (fun q v G' => ∃ p w, v = V.ref p ∧ G' p = some (.tup [.str q.1, w]) ∧ EntV w (o.1, q.2) G') (fun _ _ _ _ e ⟨p, w, h1, h2, h3⟩ => ⟨p, w, h1, e _ _ h2, ent_mono _ _ _ _ e h3⟩) (gi_keysD (gv_var rfl) hrp) (by omega) (fun _ _ => rfl) (fun _ _ _ _ => gt_yes) (fun q hq _ G' e => ?_) fun _ _ e c => Same.lk e c) fun o G' ho => ?_))) fun v G8 H8 s8 hv => ?_
    · obtain ⟨vb, hvb, rb, rfl, hrb⟩ := (hrp.get q.1).1 q.2 (valD_of ndo hq)
      exact fun H s _ Q q' => ge_tup (Φ := fun v G' => ∃ p w, v = V.ref p ∧ G' p = some (.tup [.str q.1, w]) ∧ EntV w (o.1, q.2) G') (gxa_consV (gv_var rfl) (gxa_cons (Ψ := fun v G' => EntV v (o.1, q.2) G') (ge_tup (gxa_consV (gv_var rfl) (gxa_consV (gv_dget (k := Sum.inr q.1) (gv_var rfl) (gv_var rfl) (e _ _ hrd) hvb) (gxa_nil ⟨few rfl, fun p gp => ⟨p, rb, rfl, upd_same, Same.put gp _ _ (e _ _ hrb)⟩⟩)))) fun v G'' e2 hv => gxa_nil ⟨few rfl, fun p gp => ⟨p, v, rfl, upd_same, ent_mono _ _ _ _ (Same.put gp) hv⟩⟩)) H s trivial Q q'
    · obtain ⟨xs, rfl, al⟩ := ho
      rw [List.filter_eq_self.mpr (fun _ _ => rfl)] at al
      exact ⟨xs, rfl, al⟩
    · obtain ⟨Dd, more, rfl, hDd, al⟩ := hv
      have own8 := own7.step s8
      have lp8 := lp7.step s8
      have hp8 := hp.mono ent_mono (s7.ex.trans s8.ex)
      have hmore : PrD EntV G8 more (flatT R o.1) := by
        unfold flatT
        exact all2_flip (f := fun q : Str × Row => (q.1, (o.1, q.2))) al
      have all8 : PrD EntV G8 (kvs ++ more) (flatR (tb.take (j + 1)) R) := by
        unfold flatR
        rw [flat_snoc ho]
        exact all2_app hp8 hmore
      have kn : ((kvs ++ more).map (·.1)).Nodup := by
        rw [all8.keys]
        have : (flatR (tb.take (j + 1)) R).Sublist (flatR tb R) := by
          conv => rhs; unfold flatR; rw [← List.take_append_drop (j + 1) tb, List.flatMap_append]
          exact List.sublist_append_left _ _
        exact List.pairwise_map.mpr ((fnd.sublist (this.map _)).imp fun h z => h (Sum.inr.inj z))
      have lm : more.length ≤ 10 := by
        have := hmore.length
        unfold flatT at this
        rw [List.length_map] at this
        omega
      refine ⟨Dd, more, rfl, fun z => ?_, s8.sub.rd hDd, by omega, ⟨G8, lp8.write own8 (by simp), _, _, kvs ++ more, rfl, eG.trans (s7.ex.trans s8.ex), ?_, all8⟩⟩
      · rw [← z] at hDd
        rw [own8.g] at hDd; cases hDd
      · rw [← mergeK_new more kvs kn]
        exact own8.write
  · obtain ⟨v2, v3, kvs, rfl, eG, own, hp⟩ := iv
    rw [List.take_length] at hp
    dsimp only
    refine s_ret lp.st.sub (gv_var rfl) fun H7 e7 => ?_
    have own7 := own.grow e7
    exact k fd (upd G6 fd (.dK kvs)) H7 kvs ((lp.st.grow e7).tell own7.g own7.h0 own7.at_) upd_same (hp.mono ent_mono (Same.put own7.g))
end
end K25

/-! D3 -/
/-! D3: who is near, as the law looks; groups by rounds. -/
namespace K25
open PySem PySem.Spec PyProof.Rows L2
theorem fLike_cfs (fs : Flds) (so : Str) : fLike (cfs fs) so = fLike (srtD fs) so := by
  unfold fLike cfs
  rw [List.filter_map, List.map_map]
  have : ((fun f : Str × Fld => decide (f.2.sort = so)) ∘ fun p : Str × Fld => (p.1, cfld p.2)) = fun f => decide (f.2.sort = so) := by
    funext f
    show decide ((cfld f.2).sort = so) = _
    rw [cfld_sort]
  rw [this]
  rfl
def lkL (tb : Tbs) (fs : Flds) (t t2 : Str) (r : Row) : List (Option Str) := ((fLike fs "link").filter fun f => decide (linkTo tb t f = t2)).map fun f => (valD r f).join
def inN (ns : List Str) (x : Option Str) : Bool := match x with
  | some s => decide (s ∈ ns)
  | none => false
theorem inV_ov (y : Str) (l : List (Option Str)) : inV (.str y) (l.map ov) = decide (some y ∈ l) := by
  unfold inV
  induction l with
  | nil => rfl
  | cons x l ih =>
    rw [List.map_cons, List.any_cons, ih]
    cases x with
    | none => simp [ov, eqV]
    | some s =>
      show (eqV (.str s) (.str y) || _) = _
      rw [eqV_str]
      by_cases e : s = y
      · subst e; simp
      · simp [e, show ¬ y = s from fun z => e z.symm]
theorem near_iff {tb : Tbs} {R : Rws} {x y t t2 : Str} {r r2 : Row} {fs gs : Flds} (oT : TbsOk tb) (oR : RwOk tb R) (h1 : (x, (t, r)) ∈ R) (h2 : (y, (t2, r2)) ∈ R) (e1 : valD tb t = some fs) (e2 : valD tb t2 = some gs) :
    (some y ∈ lkL tb fs t t2 r ∨ shares gs (tgNames fs r) r2 = true) ↔ y ∈ nbO tb R x := by
  have v1 := valD_of oR.nd h1
  have v2 := valD_of oR.nd h2
  have hn : nbO tb R x = nbrs tb R fs t r := by
    unfold nbO
    rw [v1]
    simp only [e1]
  rw [hn]
  unfold nbrs
  rw [List.mem_filterMap]
  have tabY : ∀ u, y ∈ (tOf R u).map (·.1) ↔ u = t2 := fun u => by
    rw [tOf_ids]
    constructor
    · rintro ⟨r', h⟩
      have := valD_of oR.nd h
      rw [v2] at this
      cases this; rfl
    · rintro rfl
      exact ⟨r2, h2⟩
  constructor
  · rintro (h | h)
    · refine ⟨some y, List.mem_append_left _ ?_, rfl⟩
      unfold lkL at h
      obtain ⟨f, hf, ef⟩ := List.mem_map.mp h
      obtain ⟨hf1, hf2⟩ := List.mem_filter.mp hf
      refine List.mem_map.mpr ⟨f, hf1, ?_⟩
      unfold tgt
      rw [of_decide_eq_true hf2, ef, if_pos]
      exact decide_eq_true ((tabY t2).mpr rfl)
    · refine ⟨some y, List.mem_append_right _ (List.mem_flatMap.mpr ⟨(t2, gs), valD_mem e2, ?_⟩), rfl⟩
      unfold shareIds
      exact List.mem_map.mpr ⟨(y, r2), List.mem_filter.mpr ⟨srtD_mem.mpr (tOf_mem.mpr h2), h⟩, rfl⟩
  · rintro ⟨z, hz, ez⟩
    have ez : z = some y := ez
    subst ez
    rcases List.mem_append.mp hz with hz | hz
    · obtain ⟨f, hf, ef⟩ := List.mem_map.mp hz
      unfold tgt at ef
      split at ef
      · rename_i hh
        rw [ef] at hh
        refine .inl (List.mem_map.mpr ⟨f, List.mem_filter.mpr ⟨hf, decide_eq_true ?_⟩, ef⟩)
        exact (tabY _).mp (of_decide_eq_true hh)
      · cases ef
    · obtain ⟨o, ho, hz⟩ := List.mem_flatMap.mp hz
      unfold shareIds at hz
      obtain ⟨q, hq, eq⟩ := List.mem_map.mp hz
      obtain ⟨hq1, hq2⟩ := List.mem_filter.mp hq
      have eq : q.1 = y := Option.some.inj eq
      have hm : (q.1, (o.1, q.2)) ∈ R := tOf_mem.mp (srtD_mem.mp hq1)
      have v3 := valD_of oR.nd hm
      rw [eq, v2] at v3
      have v4 := valD_of oT.nd (k := o.1) (x := o.2) ho
      simp only [Option.some.injEq, Prod.mk.injEq] at v3
      rw [← v3.1, e2] at v4
      have v4 := Option.some.inj v4
      rw [v4, v3.2]
      exact .inr hq2
theorem shares_filter (gs : Flds) (ns : List Str) (r : Row) : (!((fLike gs "tag").filter fun f => inN ns (valD r f).join).isEmpty) = shares gs ns r := by
  unfold shares
  generalize fLike gs "tag" = l
  induction l with
  | nil => rfl
  | cons f l ih =>
    rw [List.filter_cons, List.any_cons, ← ih]
    show _ = ((inN ns (valD r f).join) || _)
    cases inN ns (valD r f).join <;> rfl
/-! ### groups by rounds -/
def adjB (tb : Tbs) (R : Rws) (x y : Str) : Bool := decide (y ∈ nbO tb R x) || decide (x ∈ nbO tb R y)
theorem adjB_iff {tb : Tbs} {R : Rws} {x y : Str} : adjB tb R x y = true ↔ Adj tb R x y := by unfold adjB Adj; simp
def joinsB (tb : Tbs) (R : Rws) (g : List Str) (x : Str) : Bool := g.any fun o => adjB tb R x o
theorem joinsB_iff {tb : Tbs} {R : Rws} {g : List Str} {x : Str} : joinsB tb R g x = true ↔ ∃ o ∈ g, Adj tb R x o := by unfold joinsB; rw [List.any_eq_true]; exact ⟨fun ⟨o, h1, h2⟩ => ⟨o, h1, adjB_iff.mp h2⟩, fun ⟨o, h1, h2⟩ => ⟨o, h1, adjB_iff.mpr h2⟩⟩
open Classical in
noncomputable def goG (tb : Tbs) (R : Rws) (gs : List (List Str)) (l : List Str) : List (List Str) := l.foldl (fun gs i => if i ∈ gs.flatten then gs else gs ++ [cmp tb R i]) gs
theorem goG_ids (tb : Tbs) (R : Rws) : goG tb R [] (idsS R) = groupsD tb R := rfl
theorem goG_cons_out {tb : Tbs} {R : Rws} {gs : List (List Str)} {x : Str} {l : List Str} (h : x ∉ gs.flatten) : goG tb R gs (x :: l) = goG tb R (gs ++ [cmp tb R x]) l := by
  unfold goG
  rw [List.foldl_cons, if_neg h]
theorem goG_cons_in {tb : Tbs} {R : Rws} {gs : List (List Str)} {x : Str} {l : List Str} (h : x ∈ gs.flatten) : goG tb R gs (x :: l) = goG tb R gs l := by
  unfold goG
  rw [List.foldl_cons, if_pos h]
theorem goG_filter {tb : Tbs} {R : Rws} : ∀ {l : List Str} {gs : List (List Str)} {p : Str → Bool}, (∀ x ∈ l, p x = false → x ∈ gs.flatten) → goG tb R gs (l.filter p) = goG tb R gs l
  | [], _, _, _ => rfl
  | x :: l, gs, p, h => by
    have hl := fun y hy => h y (List.mem_cons_of_mem _ hy)
    cases hp : p x with
    | false =>
      rw [List.filter_cons, if_neg (by rw [hp]; simp), goG_cons_in (h x List.mem_cons_self hp), goG_filter hl]
    | true =>
      rw [List.filter_cons, if_pos hp]
      by_cases m : x ∈ gs.flatten
      · rw [goG_cons_in m, goG_cons_in m, goG_filter hl]
      · rw [goG_cons_out m, goG_cons_out m, goG_filter fun y hy hpy => by
          rw [List.flatten_append]
          exact List.mem_append_left _ (hl y hy hpy)]
/-- the groups found, the ids left -/
structure GW (tb : Tbs) (R : Rws) (gs : List (List Str)) (left : List Str) : Prop where
  go : goG tb R gs left = groupsD tb R
  nd : left.Nodup
  inn : ∀ x ∈ left, x ∈ R.map (·.1)
  out : ∀ x ∈ left, x ∉ gs.flatten
  all : ∀ x ∈ R.map (·.1), x ∈ left ∨ x ∈ gs.flatten
  cl : ∀ x y, x ∈ gs.flatten → Adj tb R x y → y ∈ gs.flatten
/-- one group, behind so many rounds -/
structure GR (tb : Tbs) (R : Rws) (x : Str) (l : List Str) (i : Nat) (gr rest : List Str) : Prop where
  hx : x ∈ gr
  nd : gr.Nodup
  inn : ∀ y ∈ gr, y ∈ x :: l
  rch : ∀ y ∈ gr, RchG tb R x y
  rst : rest = l.filter fun y => !decide (y ∈ gr)
  big : (∀ y ∈ rest, joinsB tb R gr y = false) ∨ i + 1 ≤ gr.length
theorem GW.start {tb : Tbs} {R : Rws} (nd : (R.map (·.1)).Nodup) : GW tb R [] (idsS R) :=
  ⟨goG_ids tb R, sortS_nodup nd, fun x h => idsS_mem.mp h, fun x _ h => (by cases h), fun x h => .inl (idsS_mem.mpr h), fun x y h => (by cases h)⟩
theorem GR.start {tb : Tbs} {R : Rws} {x : Str} {l : List Str} (nd : (x :: l).Nodup) : GR tb R x l 0 [x] l :=
  ⟨List.mem_singleton.mpr rfl, by simp, fun y h => by rw [List.mem_singleton.mp h]; exact List.mem_cons_self, fun y h => by rw [List.mem_singleton.mp h]; exact .here, (List.filter_eq_self.mpr fun y hy => by
    have : y ≠ x := fun z => (List.nodup_cons.mp nd).1 (z ▸ hy)
    simpa using this).symm, .inr (by simp)⟩
theorem GR.turn {tb : Tbs} {R : Rws} {x : Str} {l : List Str} {i : Nat} {gr rest : List Str} (h : GR tb R x l i gr rest) (nd : (x :: l).Nodup) :
    GR tb R x l (i + 1) (gr ++ rest.filter (joinsB tb R gr)) (rest.filter fun y => !decide (y ∈ rest.filter (joinsB tb R gr))) := by
  have rl : ∀ y ∈ rest, y ∈ l ∧ y ∉ gr := fun y hy => by
    rw [h.rst] at hy
    obtain ⟨h1, h2⟩ := List.mem_filter.mp hy
    exact ⟨h1, by simpa using h2⟩
  have ndr : rest.Nodup := by rw [h.rst]; exact (List.nodup_cons.mp nd).2.filter _
  refine ⟨List.mem_append_left _ h.hx, ?_, fun y hy => ?_, fun y hy => ?_, ?_, ?_⟩
  · rw [List.nodup_append]
    exact ⟨h.nd, ndr.filter _, fun a ha b hb e => (rl b (List.mem_filter.mp hb).1).2 (e ▸ ha)⟩
  · rcases List.mem_append.mp hy with hy | hy
    · exact h.inn y hy
    · exact List.mem_cons_of_mem _ (rl y (List.mem_filter.mp hy).1).1
  · rcases List.mem_append.mp hy with hy | hy
    · exact h.rch y hy
    · obtain ⟨o, ho, ao⟩ := joinsB_iff.mp (List.mem_filter.mp hy).2
      exact .step (h.rch o ho) ao.sym
  · conv => lhs; rw [h.rst, List.filter_filter]
    refine List.filter_congr fun y hy => ?_
    rw [h.rst]
    by_cases m : y ∈ gr
    · simp [m]
    · by_cases m2 : joinsB tb R gr y = true <;> simp [m, m2, hy]
  · cases hm : rest.filter (joinsB tb R gr) with
    | nil =>
      left
      intro y hy
      rw [List.append_nil]
      have hy' := (List.mem_filter.mp hy).1
      have := List.filter_eq_nil_iff.mp hm y hy'
      simpa using this
    | cons y ys =>
      right
      have hy : y ∈ rest.filter (joinsB tb R gr) := by rw [hm]; exact List.mem_cons_self
      obtain ⟨h1, h2⟩ := List.mem_filter.mp hy
      rcases h.big with b | b
      · rw [b y h1] at h2; cases h2
      · rw [List.length_append, List.length_cons]; omega
theorem GW.next {tb : Tbs} {R : Rws} {gs : List (List Str)} {x : Str} {l gr rest : List Str} (w : GW tb R gs (x :: l)) (nd : (R.map (·.1)).Nodup) (h : GR tb R x l R.length gr rest) : sortS gr = cmp tb R x ∧ GW tb R (gs ++ [sortS gr]) rest := by
  have gin : ∀ y ∈ gr, y ∈ R.map (·.1) := fun y hy => w.inn y (h.inn y hy)
  have lg : gr.length ≤ R.length := by
    have := nodup_len h.nd gin
    rw [List.length_map] at this
    exact this
  have shut : ∀ y ∈ rest, joinsB tb R gr y = false := h.big.resolve_right (by omega)
  have closed : ∀ a b, a ∈ gr → Adj tb R a b → b ∈ gr := fun a b ha ab => by
    have hb := ab.mem.2
    rcases w.all b hb with m | m
    · by_cases e : b ∈ gr
      · exact e
      · have br : b ∈ rest := by
          rw [h.rst]
          refine List.mem_filter.mpr ⟨?_, by simpa using e⟩
          rcases List.mem_cons.mp m with rfl | m
          · exact absurd h.hx e
          · exact m
        have := shut b br
        rw [joinsB_iff.mpr ⟨a, ha, ab.sym⟩] at this
        cases this
    · exact absurd (w.cl b a m ab.sym) (w.out a (h.inn a ha))
  have full : ∀ y, y ∈ gr ↔ RchG tb R x y := fun y => ⟨h.rch y, fun r => by
    induction r with
    | here => exact h.hx
    | step _ a ih => exact closed _ _ ih a⟩
  have xi : x ∈ R.map (·.1) := w.inn x List.mem_cons_self
  have ec := cmp_of nd xi h.nd full
  refine ⟨ec, ?_⟩
  have fl : ∀ y, y ∈ (gs ++ [sortS gr]).flatten ↔ y ∈ gs.flatten ∨ y ∈ gr := fun y => by
    rw [List.flatten_append, List.mem_append]
    simp [sortS_mem]
  refine ⟨?_, ?_, fun y hy => ?_, fun y hy z => ?_, fun y hy => ?_, fun a b ha ab => ?_⟩
  · rw [← w.go, goG_cons_out (w.out x List.mem_cons_self), ← ec, h.rst]
    refine goG_filter fun y hy hp => (fl y).mpr (.inr ?_)
    simpa using hp
  · rw [h.rst]; exact (List.nodup_cons.mp w.nd).2.filter _
  · rw [h.rst] at hy
    exact w.inn y (List.mem_cons_of_mem _ (List.mem_filter.mp hy).1)
  · rw [h.rst] at hy
    obtain ⟨h1, h2⟩ := List.mem_filter.mp hy
    rcases (fl y).mp z with z | z
    · exact w.out y (List.mem_cons_of_mem _ h1) z
    · simp [z] at h2
  · rcases w.all y hy with m | m
    · by_cases e : y ∈ gr
      · exact .inr ((fl y).mpr (.inr e))
      · refine .inl ?_
        rw [h.rst]
        refine List.mem_filter.mpr ⟨?_, by simpa using e⟩
        rcases List.mem_cons.mp m with rfl | m
        · exact absurd h.hx e
        · exact m
    · exact .inr ((fl y).mpr (.inl m))
  · rcases (fl a).mp ha with m | m
    · exact (fl b).mpr (.inl (w.cl a b m ab))
    · exact (fl b).mpr (.inr (closed a b m ab))
theorem GW.fin {tb : Tbs} {R : Rws} {gs : List (List Str)} (w : GW tb R gs []) : gs = groupsD tb R := w.go
end K25

/-! F33 -/
namespace K25
open PySem PySem.Spec PyProof.Rows L2
theorem ctb_some {tb : Tbs} (nd : (tb.map (·.1)).Nodup) {t : Str} {fs : Flds} (h : valD (ctb tb) t = some fs) : ∃ gs, valD tb t = some gs ∧ fs = cfs gs := by
  rw [ctb_val nd] at h
  obtain ⟨gs, h1, h2⟩ := Option.map_eq_some_iff.mp h
  exact ⟨gs, h1, h2.symm⟩
theorem vP_of {R : Rws} (nd : (R.map (·.1)).Nodup) (pa : Str → Addr) : ∀ q ∈ R, valV (R.map fun q => ((Sum.inr q.1 : Key), V.ref (pa q.1))) (Sum.inr q.1) = some (.ref (pa q.1)) := fun q hq => valV_of_nodup (by rw [List.map_map]; exact List.pairwise_map.mpr ((List.pairwise_map.mp nd).imp fun h z => h (Sum.inr.inj z))) (List.mem_map.mpr ⟨q, hq, rfl⟩)
theorem flat_ovs (l : List (Option Str)) : (l.map ov).all flatV = true := by
  rw [List.all_eq_true]
  intro x hx
  obtain ⟨s, _, rfl⟩ := List.mem_map.mp hx
  cases s <;> rfl
theorem RowsX.mono1 {G G' : Hp} {d : Addr} {R : Rws} {pa ra : Str → Addr} (h : RowsX G G d R pa ra) (e : Same G G') : RowsX G' G' d R pa ra := ⟨e _ _ h.dict, fun q hq => e _ _ (h.tup q hq), fun q hq => e _ _ (h.row q hq)⟩
theorem filter_any (p : Str → Bool) (l : List Str) : (!((l.filter p).map V.str).isEmpty) = l.any p := by
  induction l with
  | nil => rfl
  | cons o l ih =>
    rw [List.filter_cons, List.any_cons]
    cases p o with
    | true => rfl
    | false => exact ih
section
variable {P : Program} {w : World} {K : PySem.W.Frag} {mg : Str → Option Value} {base : Heap}
def spNear : Sp := fun vs H Q _ => ∃ p dt l d tb R pa ra x y G, vs = [.ref p, .ref d, .str x, .str y] ∧ Sub G H ∧ G p = some (.tup [.ref dt, .ref l]) ∧ TbsAt G dt tb ∧ TbsG tb ∧ RowsX G G d R pa ra ∧ RwOk (ctb tb) R ∧ x ∈ R.map (·.1) ∧ y ∈ R.map (·.1) ∧ ∀ H', Same H H' → Q (.bl (decide (y ∈ nbO (ctb tb) R x))) H'
abbrev N_w_near : List Str := ["_law_parts_here", "_law_rows_here", "_law_one", "_law_other", "_law_table", "_law_row", "_law_links", "_law_link", "_law_names_here", "_law_tag", "_law_far", "_law_it", "_law_shared"]
theorem sc_w_near : FnScope N_w_near ["_law_parts_here", "_law_rows_here", "_law_one", "_law_other"] (defScope s_w_near) := ⟨rfl, rfl, rfl, by decide +kernel, rfl, by decide +kernel, by decide +kernel⟩
-- slots: 0 _law_parts_here*, 1 _law_rows_here*, 2 _law_one, 3 _law_other*, 4 _law_table*, 5 _law_row*, 6 _law_links, 7 _law_link, 8 _law_names_here*, 9 _law_tag, 10 _law_far, 11 _law_it*, 12 _law_shared
theorem c_w_near (T : Tx K mg) : Cal P w K mg base 2 "_law_near" spNear := by
  refine ⟨_, _, ["_law_parts_here", "_law_rows_here", "_law_one", "_law_other"], fn_body T.f_w_near sc_w_near (fun vs H Q E h => by obtain ⟨_, _, _, _, _, _, _, _, _, _, _, rfl, _⟩ := h; rfl) (fun cdv A outer s H vs Q E hr h => ?_), T.g_w_near, T.f_w_near.kp, T.f_w_near.bindsN fun _ _ _ _ _ _ us hl => match us, hl with | [_, _, _, _], _ => rfl⟩
  obtain ⟨p, dt, l, d, tb, R, pa, ra, x, y, G, rfl, sG, hp, ⟨tkv, htd, htp⟩, og, hX, oR, hx, hy, k⟩ := h
  have hu := hu_of hr
  refine ⟨_,
    (pss_cons (ps_asg (pe_dget hu (pv 1) (pv 2) (fun _ _ => rfl)) (pg_tupK (n := 2) rfl rfl (pgs_cons (pg_name (i := 4) sc_w_near.nd rfl (Or.inr rfl)) (pgs_cons (pg_name (i := 5) sc_w_near.nd rfl (Or.inr rfl)) pgs_nil))))
    (pss_cons (ps_setLc (i := 6) rfl sc_w_near.nd rfl rfl (sw_true rfl rfl rfl (by decide +kernel)) (pi_listK rfl (pe_cal (c_w_like T) hr (by decide) rfl (pa_cons (pe_dget hu (pe_ix (ix_tupK rfl) (pv 0) pe_int (fun _ _ => rfl)) (pv 4) (fun _ _ => rfl)) (pa_cons pe_str pa_nil)))) (blkOk_by (own := [("_law_link", 7)]) (N := N_w_near) (sc := defScope s_w_near) (by decide +kernel)) (fun _ _ _ _ _ => (pg_name (i := 7) sc_w_near.nd rfl (Or.inl rfl))) (fun _ _ _ _ _ => (pts_one (pt_cmpR (OpR.or (op_eqTK rfl hr.units) op_eq) (pe_ix (ix_tupK rfl) (pe_dget hu (pe_dget hu (pe_ix (ix_tupK rfl) (pv 0) pe_int (fun _ _ => rfl)) (pv 4) (fun _ _ => rfl)) (pv 7) (fun _ _ => rfl)) pe_int (fun _ _ => rfl)) (pe_ix (ix_tupK rfl) (pe_dget hu (pv 1) (pv 3) (fun _ _ => rfl)) pe_int (fun _ _ => rfl)) (nomark _)))) (fun _ _ _ _ _ => (pe_dget hu (pv 5) (pv 7) (fun _ _ => rfl))))
    (pss_cons (ps_set (i := 8) sc_w_near.nd rfl (Or.inr rfl) (pe_lc rfl sc_w_near.nd (pi_listK rfl (pe_cal (c_w_like T) hr (by decide) rfl (pa_cons (pe_dget hu (pe_ix (ix_tupK rfl) (pv 0) pe_int (fun _ _ => rfl)) (pv 4) (fun _ _ => rfl)) (pa_cons pe_str pa_nil)))) (blkOk_by (own := [("_law_tag", 9)]) (N := N_w_near) (sc := defScope s_w_near) (by decide +kernel)) (fun _ _ _ _ _ => (pg_name (i := 9) sc_w_near.nd rfl (Or.inl rfl))) (fun _ _ _ _ _ => (pts_one (pt_cmpR op_notN (pe_dget hu (pv 5) (pv 9) (fun _ _ => rfl)) pe_non (nomark _)))) (fun _ _ _ _ _ => (pe_dget hu (pv 5) (pv 9) (fun _ _ => rfl)))))
    (pss_cons (ps_asg (pe_dget hu (pv 1) (pv 3) (fun _ _ => rfl)) (pg_tupK (n := 2) rfl rfl (pgs_cons (pg_name (i := 10) sc_w_near.nd rfl (Or.inl rfl)) (pgs_cons (pg_name (i := 11) sc_w_near.nd rfl (Or.inr rfl)) pgs_nil))))
    (pss_cons (ps_setLc (i := 12) rfl sc_w_near.nd rfl rfl (sw_true rfl rfl rfl (by decide +kernel)) (pi_listK rfl (pe_cal (c_w_like T) hr (by decide) rfl (pa_cons (pe_dget hu (pe_ix (ix_tupK rfl) (pv 0) pe_int (fun _ _ => rfl)) (pv 10) (fun _ _ => rfl)) (pa_cons pe_str pa_nil)))) (blkOk_by (own := [("_law_tag", 9)]) (N := N_w_near) (sc := defScope s_w_near) (by decide +kernel)) (fun _ _ _ _ _ => (pg_name (i := 9) sc_w_near.nd rfl (Or.inl rfl))) (fun _ _ _ _ _ => (pts_one (pt_cmpR (op_in_seqK rfl) (pe_dget hu (pv 11) (pv 9) (fun _ _ => rfl)) (pv 8) (by rfl)))) (fun _ _ _ _ _ => (pv 9)))
    (pss_one (ps_ret (pe_or (pe_cmpR (op_in_seqK rfl) (pv 3) (pv 6) (by rfl)) (pe_one (pe_cmpR (op_neNilK rfl hr.units) (pv 12) (pe_lst pa_nil) (nomark _))))))))))), ?_⟩
  obtain ⟨⟨x, t, r⟩, hq1, rfl⟩ := List.mem_map.mp hx
  obtain ⟨⟨y, t2, r2⟩, hq2, rfl⟩ := List.mem_map.mp hy
  have nd := oR.nd
  have oT := ctb_ok og.tok
  obtain ⟨fs', e1, oC1⟩ := oR.ok _ hq1
  obtain ⟨gs', e2, oC2⟩ := oR.ok _ hq2
  obtain ⟨fs, ef, rfl⟩ := ctb_some og.nd e1
  obtain ⟨gs, eg, rfl⟩ := ctb_some og.nd e2
  have ogf := og.ok _ (valD_mem ef)
  have ogg := og.ok _ (valD_mem eg)
  have okf := (oT.fs e1).1
  have okg := (oT.fs e2).1
  obtain ⟨fv, hfv, fa, rfl, hfa⟩ := (htp.get t).1 fs ef
  obtain ⟨gv, hgv, ga, rfl, hga⟩ := (htp.get t2).1 gs eg
  have vP := vP_of nd pa
  have lkf := fun so => by have := fLike_len okf so; rw [fLike_cfs] at this; exact this
  have lkg := fun so => by have := fLike_len okg so; rw [fLike_cfs] at this; exact this
  have inf : ∀ {f so}, f ∈ fLike (srtD fs) so → ∃ g, valD (cfs fs) f = some g ∧ g.sort = so := fun h => (fLike_mem okf.nd).mp (by rw [fLike_cfs]; exact h)
  have ing : ∀ {f so}, f ∈ fLike (srtD gs) so → ∃ g, valD (cfs gs) f = some g ∧ g.sort = so := fun h => (fLike_mem okg.nd).mp (by rw [fLike_cfs]; exact h)
  have val1 : ∀ {f so}, f ∈ fLike (srtD fs) so → ∃ z, valD r f = some z := fun h => by
    obtain ⟨g, h1, _⟩ := inf h
    exact valD_in (by rw [oC1.ks]; exact List.mem_map.mpr ⟨_, valD_mem h1, rfl⟩)
  have val2 : ∀ {f so}, f ∈ fLike (srtD gs) so → ∃ z, valD r2 f = some z := fun h => by
    obtain ⟨g, h1, _⟩ := ing h
    exact valD_in (by rw [oC2.ks]; exact List.mem_map.mpr ⟨_, valD_mem h1, rfl⟩)
  refine q_two sG (gv_dget (k := Sum.inr x) (gv_var rfl) (gv_var rfl) hX.dict (vP _ hq1)) (hX.tup _ hq1) fun H1 s1 => ?_
  have st1 : Stp G H G H1 := (Stp.refl sG).grow s1
  refine q_setN st1.sub (mk := .lst ((lkL (ctb tb) (cfs fs) t t2 r).map ov)) (gn_eq ?_ (gl_lc (pf := fun f => decide (linkTo (ctb tb) t f = t2)) (ds := fLike (srtD fs) "link") (fun f => ov (valD r f).join) (gi_listN (emb := V.str) (gn_like (gv_dget (k := Sum.inr t) (gv_op (gv_var rfl) gv_c (rv_ixT hp (at0 _ _))) (gv_var rfl) htd hfv) gv_c hfa ogf.nd ogf.len)) (Nat.le_trans (lkf _) (by decide)) (fun _ _ => rfl) (fun f hf => ?_) fun f hf _ => ?_)) fun lp H2 s2 hl hl' => ?_
  · unfold lkL
    rw [fLike_cfs, List.map_map]
    rfl
  · obtain ⟨g, h1, h2⟩ := inf hf
    cases g with
    | mark ws => exact absurd h2 (show ¬ (("mark" : Str) = "link") by decide)
    | tag => exact absurd h2 (show ¬ (("tag" : Str) = "link") by decide)
    | link u =>
      have h3 : valD fs f = some (.link u) := by
        rw [cfs_val ogf.nd] at h1
        obtain ⟨g, z1, z2⟩ := Option.map_eq_some_iff.mp h1
        cases g with
        | mark ws => cases z2
        | tag => cases z2
        | link v => rw [z1]; exact congrArg some z2
      obtain ⟨fkv, hfd, hfp⟩ := id hfa
      obtain ⟨v, hv, la, rfl, hla⟩ := (hfp.get f).1 _ h3
      refine gt_eq ?_ (gt_test (gv_op (gv_op (gv_dget (k := Sum.inr f) (gv_dget (k := Sum.inr t) (gv_op (gv_var rfl) gv_c (rv_ixT hp (at0 _ _))) (gv_var rfl) htd hfv) (gv_var rfl) hfd hv) gv_c (rv_ixT hla (atN (j := 1) rfl))) (gv_op (gv_dget (k := Sum.inr y) (gv_var rfl) (gv_var rfl) hX.dict (vP _ hq2)) gv_c (rv_ixT (hX.tup _ hq2) (at0 _ _))) (rv_or2 (rv_eq rfl))))
      rw [linkTo_eq e1 h1]
      exact decide_eq_decide.mpr ⟨fun z => V.str.inj z, fun z => by rw [z]⟩
  · obtain ⟨z, ez⟩ := val1 hf
    rw [ez]
    exact gv_dget (v := ov z) (k := Sum.inr f) (gv_var rfl) (gv_var rfl) (hX.row _ hq1) (by rw [rowK_val, ez]; rfl)
  have gl := st1.sub.non hl
  have st2 := (st1.grow s2).tell gl (st1.keep.free hl) hl'
  have eG2 : Same G (upd G lp (.lst ((lkL (ctb tb) (cfs fs) t t2 r).map ov))) := Same.put gl
  have hlp : (upd G lp (.lst ((lkL (ctb tb) (cfs fs) t t2 r).map ov))) lp = some (.lst ((lkL (ctb tb) (cfs fs) t t2 r).map ov)) := upd_same
  generalize upd G lp (.lst ((lkL (ctb tb) (cfs fs) t t2 r).map ov)) = G2 at *
  have hX2 := hX.mono1 eG2
  have hp2 := eG2 _ _ hp
  have htd2 := eG2 _ _ htd
  refine q_setN st2.sub (mk := sL (tgNames (cfs fs) r)) (gn_eq ?_ (gl_lc (pf := fun f => !decide (ov (valD r f).join = .non)) (ds := fLike (srtD fs) "tag") (fun f => ov (valD r f).join) (gi_listN (emb := V.str) (gn_like (gv_dget (k := Sum.inr t) (gv_op (gv_var rfl) gv_c (rv_ixT hp2 (at0 _ _))) (gv_var rfl) htd2 hfv) gv_c (hfa.mono fld_mono eG2) ogf.nd ogf.len)) (Nat.le_trans (lkf _) (by decide)) (fun _ _ => rfl) (fun f hf => ?_) fun f hf _ => ?_)) fun nm H3 s3 hn hn' => ?_
  · have := filterMap_ov ((fLike (srtD fs) "tag").map fun f => (valD r f).join)
    rw [List.filter_map, List.map_map, List.filterMap_map] at this
    unfold tgNames
    rw [fLike_cfs]
    exact congrArg HO.lst this
  · obtain ⟨z, ez⟩ := val1 hf
    rw [ez]
    exact gt_test (gv_op (x := ov z) (gv_dget (k := Sum.inr f) (gv_var rfl) (gv_var rfl) (hX2.row _ hq1) (by rw [rowK_val, ez]; rfl)) gv_c rv_notN)
  · obtain ⟨z, ez⟩ := val1 hf
    rw [ez]
    exact gv_dget (v := ov z) (k := Sum.inr f) (gv_var rfl) (gv_var rfl) (hX2.row _ hq1) (by rw [rowK_val, ez]; rfl)
  have gn := st2.sub.non hn
  have st3 := (st2.grow s3).tell gn (st2.keep.free hn) hn'
  have eG3 : Same G2 (upd G2 nm (sL (tgNames (cfs fs) r))) := Same.put gn
  have hnm : (upd G2 nm (sL (tgNames (cfs fs) r))) nm = some (sL (tgNames (cfs fs) r)) := upd_same
  generalize upd G2 nm (sL (tgNames (cfs fs) r)) = G3 at *
  have hX3 := hX2.mono1 eG3
  have hp3 := eG3 _ _ hp2
  have htd3 := eG3 _ _ htd2
  refine q_two st3.sub (gv_dget (k := Sum.inr y) (gv_var rfl) (gv_var rfl) hX3.dict (vP _ hq2)) (hX3.tup _ hq2) fun H4 s4 => ?_
  have st4 := st3.grow s4
  refine q_setN st4.sub (mk := sL ((fLike (srtD gs) "tag").filter fun f => inN (tgNames (cfs fs) r) (valD r2 f).join)) (gl_lc (pf := fun f => inN (tgNames (cfs fs) r) (valD r2 f).join) (ds := fLike (srtD gs) "tag") V.str (gi_listN (emb := V.str) (gn_like (gv_dget (k := Sum.inr t2) (gv_op (gv_var rfl) gv_c (rv_ixT hp3 (at0 _ _))) (gv_var rfl) htd3 hgv) gv_c (hga.mono fld_mono (eG2.trans eG3)) ogg.nd ogg.len)) (Nat.le_trans (lkg _) (by decide)) (fun _ _ => rfl) (fun f hf => ?_) fun f hf _ => gv_var rfl) fun sh H5 s5 hs hs' => ?_
  · obtain ⟨z, ez⟩ := val2 hf
    rw [ez]
    refine gt_eq ?_ (gt_test (gv_op (x := ov z) (gv_dget (k := Sum.inr f) (gv_var rfl) (gv_var rfl) (hX3.row _ hq2) (by rw [rowK_val, ez]; rfl)) (gv_var rfl) (rv_inSo hnm)))
    cases z <;> rfl
  have gs' := st4.sub.non hs
  have st5 := (st4.grow s5).tell gs' (st4.keep.free hs) hs'
  refine s_ret st5.sub (gv_eq ?_ (gv_orV (gv_op (gv_var rfl) (gv_var rfl) (rv_inL (neg := false) (Same.put gs' _ _ (eG3 _ _ hlp)) rfl (flat_ovs _))) fun _ => gv_eqNil (neg := true) (gv_var rfl) upd_same (gl_lst ga_nil (by decide)))) fun H6 s6 => k H6 (st5.keep.trans s6)
  have hsf := shares_filter (cfs gs) (tgNames (cfs fs) r) r2
  rw [fLike_cfs] at hsf
  have e3 : ((fLike (srtD gs) "tag").filter fun f => inN (tgNames (cfs fs) r) (valD r2 f).join).map V.str = [] ↔ ((fLike (srtD gs) "tag").filter fun f => inN (tgNames (cfs fs) r) (valD r2 f).join) = [] := List.map_eq_nil_iff
  simp only [Bool.false_eq_true, if_false, if_true]
  rw [inV_ov]
  have e4 : (List.map V.str ((fLike (srtD gs) "tag").filter fun f => inN (tgNames (cfs fs) r) (valD r2 f).join)).isEmpty = ((fLike (srtD gs) "tag").filter fun f => inN (tgNames (cfs fs) r) (valD r2 f).join).isEmpty := by
    cases (fLike (srtD gs) "tag").filter fun f => inN (tgNames (cfs fs) r) (valD r2 f).join <;> rfl
  rw [e4, hsf]
  refine congrArg V.bl ?_
  rw [Bool.eq_iff_iff, Bool.or_eq_true, decide_eq_true_iff, decide_eq_true_iff]
  exact near_iff oT oR hq1 hq2 e1 e2
theorem sv_near {G : Hp} {p dt l d : Addr} {tb : Tbs} {R : Rws} {pa ra : Str → Addr} {x y : Str} (hp : G p = some (.tup [.ref dt, .ref l])) (ht : TbsAt G dt tb) (og : TbsG tb) (hX : RowsX G G d R pa ra) (oR : RwOk (ctb tb) R) (hx : x ∈ R.map (·.1)) (hy : y ∈ R.map (·.1)) : Sv spNear [.ref p, .ref d, .str x, .str y] G (.bl (decide (y ∈ nbO (ctb tb) R x))) := fun H s Q E q => ⟨p, dt, l, d, tb, R, pa, ra, x, y, G, rfl, s, hp, ht, og, hX, oR, hx, hy, q⟩
def spJoins : Sp := fun vs H Q _ => ∃ p dt l d tb R pa ra g gr x G, vs = [.ref p, .ref d, .ref g, .str x] ∧ Sub G H ∧ G p = some (.tup [.ref dt, .ref l]) ∧ TbsAt G dt tb ∧ TbsG tb ∧ RowsX G G d R pa ra ∧ RwOk (ctb tb) R ∧ G g = some (sL gr) ∧ gr.length ≤ 10 ∧ (∀ o ∈ gr, o ∈ R.map (·.1)) ∧ x ∈ R.map (·.1) ∧ ∀ H', Same H H' → Q (.bl (joinsB (ctb tb) R gr x)) H'
abbrev N_w_joins : List Str := ["_law_parts_here", "_law_rows_here", "_law_group", "_law_one", "_law_some", "_law_other"]
theorem sc_w_joins : FnScope N_w_joins ["_law_parts_here", "_law_rows_here", "_law_group", "_law_one"] (defScope s_w_joins) := ⟨rfl, rfl, rfl, by decide +kernel, rfl, by decide +kernel, by decide +kernel⟩
-- slots: 0 _law_parts_here*, 1 _law_rows_here*, 2 _law_group, 3 _law_one*, 4 _law_some, 5 _law_other
theorem c_w_joins (T : Tx K mg) : Cal P w K mg base 3 "_law_joins" spJoins := by
  refine ⟨_, _, ["_law_parts_here", "_law_rows_here", "_law_group", "_law_one"], fn_body T.f_w_joins sc_w_joins (fun vs H Q E h => by obtain ⟨_, _, _, _, _, _, _, _, _, _, _, _, rfl, _⟩ := h; rfl) (fun cdv A outer s H vs Q E hr h => ?_), T.g_w_joins, T.f_w_joins.kp, T.f_w_joins.bindsN fun _ _ _ _ _ _ us hl => match us, hl with | [_, _, _, _], _ => rfl⟩
  obtain ⟨p, dt, l, d, tb, R, pa, ra, g, gr, x, G, rfl, sG, hp, ht, og, hX, oR, hg, l10, hgr, hx, k⟩ := h
  have hu := hu_of hr
  refine ⟨_,
    (pss_cons (ps_setLc (i := 4) rfl sc_w_joins.nd rfl rfl (sw_true rfl rfl rfl (by decide +kernel)) (pi_listK rfl (pv 2)) (blkOk_by (own := [("_law_other", 5)]) (N := N_w_joins) (sc := defScope s_w_joins) (by decide +kernel)) (fun _ _ _ _ _ => (pg_name (i := 5) sc_w_joins.nd rfl (Or.inl rfl))) (fun _ _ _ _ _ => (pts_one (PW.pt (pw_or (pt_val (pe_cal (c_w_near T) hr (by decide) rfl (pa_cons (pv 0) (pa_cons (pv 1) (pa_cons (pv 3) (pa_cons (pv 5) pa_nil)))))) (pw_or1 (pt_val (pe_cal (c_w_near T) hr (by decide) rfl (pa_cons (pv 0) (pa_cons (pv 1) (pa_cons (pv 5) (pa_cons (pv 3) pa_nil))))))))))) (fun _ _ _ _ _ => (pv 5)))
    (pss_one (ps_ret (pe_cmpR (op_neNilK rfl hr.units) (pv 4) (pe_lst pa_nil) (nomark _))))), ?_⟩
  refine q_setN sG (mk := sL (gr.filter fun o => adjB (ctb tb) R x o)) (gl_lc (pf := fun o => adjB (ctb tb) R x o) (ds := gr) V.str (gi_list (emb := V.str) (gv_var rfl) hg) (by omega) (fun _ _ => rfl) (fun o ho => ?_) fun o ho _ => gv_var rfl) fun s1 H1 e1 h1 h1' => ?_
  · exact gt_eq (b := decide (o ∈ nbO (ctb tb) R x) || decide (x ∈ nbO (ctb tb) R o)) rfl (gt_or (gt_test (gv_call (ga_cons (gv_var rfl) (ga_cons (gv_var rfl) (ga_cons (gv_var rfl) (ga_cons (gv_var rfl) ga_nil)))) (sv_near hp ht og hX oR hx (hgr o ho)))) fun _ => gt_test (gv_call (ga_cons (gv_var rfl) (ga_cons (gv_var rfl) (ga_cons (gv_var rfl) (ga_cons (gv_var rfl) ga_nil)))) (sv_near hp ht og hX oR (hgr o ho) hx)))
  · have gs := sG.non h1
    have st := ((Stp.refl sG).grow e1).tell gs h1 h1'
    refine s_ret st.sub (gv_eq ?_ (gv_eqNil (neg := true) (gv_var rfl) upd_same (gl_lst ga_nil (by decide)))) fun H2 e2 => k H2 (st.keep.trans e2)
    refine congrArg V.bl ?_
    simp only [if_true]
    exact filter_any _ gr
end
end K25

/-! F34 -/
namespace K25
open PySem PySem.Spec PyProof.Rows L2
section
variable {K : PySem.W.Frag} {σ : L2.St} {G H : Hp} {D : Ends} {rest : TS} {ta te : TE} {a b l : Addr} {xs zs : List V} {y : V} {i j : Nat} {mk : HO}
theorem q_pop (hσ : σ[j]? = some (some (.ref a))) (ha : H a = some (.lst (y :: xs))) (hl : xs.length ≤ 1000) (k : ∀ p, H p = none → rest D (σ.set i (some (.ref p))) (upd (upd H a (.lst xs)) p (.lst [y]))) : tSeq (tAsg (tLst (tCons (tBM K "list" rPopAt (tVar j) (tCons (tC (.int 0)) tNil)) tNil)) (gName i)) rest D σ H :=
  ⟨_, hσ, .inl ⟨rfl, _, SqL.of ha⟩, a, y :: xs, 0, 0, y, rfl, rfl, ha, by decide, by decide, seqIndex_of (by decide) (by simp), rfl, few rfl, fun p hp => k p (by
    by_cases e : p = a
    · rw [e, upd_same] at hp; cases hp
    · rw [upd_ne e] at hp; exact hp)⟩
theorem s_extend (s : Sub G H) (ho : Gv ta σ G (.ref l)) (hv : Gv te σ G (.ref b)) (hb : G b = some (.lst zs)) (ha : H l = some (.lst xs)) (hl : xs.length + zs.length ≤ 100000) (k : ∀ H1, Same H H1 → D.nx σ (upd H1 l (.lst (xs ++ zs)))) : tDrop (tBM K "list" rExtend ta (tCons te tNil)) D σ H :=
  ho H s _ fun H1 e1 => ⟨.inl ⟨rfl, xs, SqL.of (e1 _ _ ha)⟩, hv H1 (s.same e1) _ fun H2 e2 => ⟨l, b, xs, zs, rfl, rfl, e2 _ _ (e1 _ _ ha), ((s.same e1).same e2).lst hb, by rw [sizeLine_eq]; omega, k H2 (e1.trans e2)⟩⟩
theorem s_appendV (s : Sub G H) (ho : Gv ta σ G (.ref a)) (hv : Gn mk te σ G) (ha : H a = some (.lst xs)) (hl : xs.length < 1000) (k : ∀ p H1, Same H H1 → H p = none → H1 p = some mk → D.nx σ (upd H1 a (.lst (xs ++ [.ref p])))) : tDrop (tBM K "list" rAppend ta (tCons te tNil)) D σ H :=
  ho H s _ fun H1 e1 => ⟨.inl ⟨rfl, xs, SqL.of (e1 _ _ ha)⟩, hv H1 (s.same e1) _ fun p H2 e2 hp hp' => ⟨a, xs, .ref p, rfl, rfl, e2 _ _ (e1 _ _ ha), by rw [sizeLine_eq]; omega, k p H2 (e1.trans e2) (e1.free hp) hp'⟩⟩
end
theorem idsS_len {tb : Tbs} {R : Rws} (h : RwOk tb R) : (idsS R).length ≤ 10 := by unfold idsS; rw [sortS_len, List.length_map]; exact h.len
section
variable {P : Program} {w : World} {K : PySem.W.Frag} {mg : Str → Option Value} {base : Heap}
theorem sv_joins {G : Hp} {p dt l d g : Addr} {tb : Tbs} {R : Rws} {pa ra : Str → Addr} {gr : List Str} {x : Str} (hp : G p = some (.tup [.ref dt, .ref l])) (ht : TbsAt G dt tb) (og : TbsG tb) (hX : RowsX G G d R pa ra) (oR : RwOk (ctb tb) R) (hg : G g = some (sL gr)) (l10 : gr.length ≤ 10) (hgr : ∀ o ∈ gr, o ∈ R.map (·.1)) (hx : x ∈ R.map (·.1)) : Sv spJoins [.ref p, .ref d, .ref g, .str x] G (.bl (joinsB (ctb tb) R gr x)) := fun H s Q E q => ⟨p, dt, l, d, tb, R, pa, ra, g, gr, x, G, rfl, s, hp, ht, og, hX, oR, hg, l10, hgr, hx, q⟩
def GrsAt (H0 G : Hp) (ps : List Addr) (gs : List (List Str)) : Prop := All2 (fun a g => H0 a = none ∧ G a = some (sL g)) ps gs
theorem GrsAt.mono {H0 G G' : Hp} {ps : List Addr} {gs : List (List Str)} (h : GrsAt H0 G ps gs) (e : Same G G') : GrsAt H0 G' ps gs := h.imp fun _ _ _ _ r => ⟨r.1, e _ _ r.2⟩
def spGroups : Sp := fun vs H Q _ => ∃ p dt l d tb R pa ra G, vs = [.ref p, .ref d] ∧ Sub G H ∧ G p = some (.tup [.ref dt, .ref l]) ∧ TbsAt G dt tb ∧ TbsG tb ∧ RowsX G G d R pa ra ∧ RwOk (ctb tb) R ∧
  ∀ f ps G' H', Stp G H G' H' → H f = none → G' f = some (.lst (ps.map V.ref)) → GrsAt H G' ps (groupsD (ctb tb) R) → Q (.ref f) H'
abbrev N_w_groups : List Str := ["_law_parts_here", "_law_rows_here", "_law_found", "_law_left", "_law_group", "_law_turn", "_law_more", "_law_one"]
theorem sc_w_groups : FnScope N_w_groups ["_law_parts_here", "_law_rows_here"] (defScope s_w_groups) := ⟨rfl, rfl, rfl, by decide +kernel, rfl, by decide +kernel, by decide +kernel⟩
-- slots: 0 _law_parts_here*, 1 _law_rows_here*, 2 _law_found, 3 _law_left, 4 _law_group*, 5 _law_turn, 6 _law_more*, 7 _law_one
theorem c_w_groups (T : Tx K mg) : Cal P w K mg base 4 "_law_groups" spGroups := by
  refine ⟨_, _, ["_law_parts_here", "_law_rows_here"], fn_body T.f_w_groups sc_w_groups (fun vs H Q E h => by obtain ⟨_, _, _, _, _, _, _, _, _, rfl, _⟩ := h; rfl) (fun cdv A outer s H vs Q E hr h => ?_), T.g_w_groups, T.f_w_groups.kp, T.f_w_groups.bindsN fun _ _ _ _ _ _ us hl => match us, hl with | [_, _], _ => rfl⟩
  obtain ⟨p, dt, l, d, tb, R, pa, ra, G, rfl, sG, hp, ht, og, hX, oR, k⟩ := h
  have hu := hu_of hr
  refine ⟨_,
    (pss_cons (ps_par (i := 2) (j := 3) (by rfl) sc_w_groups.nd rfl rfl (by decide) rfl rfl (pa_cons (pe_lst pa_nil) (pa_cons (pe_callB (cr_sortedD rfl) (by rfl) T.b_sorted (by decide +kernel) (pa_cons (pv 1) pa_nil)) pa_nil)) (by rfl))
    (pss_cons (ps_while PassesOwn.never (pt_cmpR (op_neNilK rfl hr.units) (pv 3) (pe_lst pa_nil) (nomark _))
      (pss_cons (ps_set (i := 4) sc_w_groups.nd rfl (Or.inr rfl) (pe_lst (pa_cons (pe_bmK rfl PySem.F.plainAttrs_list PySem.F.slot_list_pop PySem.F.type_list_pop mt_popAt (pv 3) (pa_cons pe_int pa_nil)) pa_nil)))
      (pss_cons (ps_for PassesOwn.never rfl (pi_range1 rfl T.b_range (pa_cons (pe_callB call_lenR (by rfl) T.b_len (by decide +kernel) (pa_cons (pv 1) pa_nil)) pa_nil)) (pg_name (i := 5) sc_w_groups.nd rfl (Or.inl rfl))
        (pss_cons (ps_set (i := 6) sc_w_groups.nd rfl (Or.inr rfl) (pe_lc rfl sc_w_groups.nd (pi_listK rfl (pv 3)) (blkOk_by (own := [("_law_one", 7)]) (N := N_w_groups) (sc := defScope s_w_groups) (by decide +kernel)) (fun _ _ _ _ _ => (pg_name (i := 7) sc_w_groups.nd rfl (Or.inl rfl))) (fun _ _ _ _ _ => (pts_one (pt_val (pe_cal (c_w_joins T) hr (by decide) rfl (pa_cons (pv 0) (pa_cons (pv 1) (pa_cons (pv 4) (pa_cons (pv 7) pa_nil)))))))) (fun _ _ _ _ _ => (pv 7))))
        (pss_cons (ps_expr (pe_bmK rfl PySem.F.plainAttrs_list PySem.F.slot_list_extend PySem.F.type_list_extend mt_extend (pv 4) (pa_cons (pv 6) pa_nil)))
        (pss_one (ps_setLc (i := 3) rfl sc_w_groups.nd rfl rfl (sw_true rfl rfl rfl (by decide +kernel)) (pi_listK rfl (pv 3)) (blkOk_by (own := [("_law_one", 7)]) (N := N_w_groups) (sc := defScope s_w_groups) (by decide +kernel)) (fun _ _ _ _ _ => (pg_name (i := 7) sc_w_groups.nd rfl (Or.inl rfl))) (fun _ _ _ _ _ => (pts_one (pt_cmpR (op_notIn_seqK rfl) (pv 7) (pv 6) (by rfl)))) (fun _ _ _ _ _ => (pv 7)))))))
      (pss_one (ps_expr (pe_bmK rfl PySem.F.plainAttrs_list PySem.F.slot_list_append PySem.F.type_list_append mt_append (pv 2) (pa_cons (pe_callB (cr_sortedSK rfl) (by rfl) T.b_sorted (by decide +kernel) (pa_cons (pv 4) pa_nil)) pa_nil)))))))
    (pss_one (ps_ret (pv 2))))), ?_⟩
  have nd := oR.nd
  have l10 := oR.len
  have keysR : (R.map fun q => ((Sum.inr q.1 : Key), V.ref (pa q.1))).map (·.1) = (R.map (·.1)).map Sum.inr := by rw [List.map_map, List.map_map]; rfl
  refine q_parNN (m1 := .lst []) (m2 := .lst ((sortS (R.map (·.1))).map V.str)) sG (gl_lst ga_nil (by decide)) (gl_sortedD (ks := R.map (·.1)) (gv_var rfl) hX.dict keysR (by rw [List.length_map]; omega)) fun fd lf0 H1 e1 hf0 hl0 nfl hf1 hl1 => ?_
  have st1 := (Stp.refl sG).grow e1
  refine q_of ⟨fun m σ2 H2 => ∃ G2 lf ps gs left v4 v5 v6, σ2 = [some (.ref p), some (.ref d), some (.ref fd), some (.ref lf), v4, v5, v6, none] ∧ Stp G H G2 H2 ∧ Own H G2 fd H2 (.lst (ps.map V.ref)) ∧ Own H G2 lf H2 (sL left) ∧ fd ≠ lf ∧ GrsAt H G2 ps gs ∧ GW (ctb tb) R gs left ∧ gs.length + left.length ≤ 10 ∧ m = left.length,
    ⟨_, G, lf0, [], [], idsS R, none, none, none, rfl, st1, ⟨hf0, sG.non hf0, hf1⟩, ⟨hl0, sG.non hl0, hl1⟩, nfl, .nil, GW.start nd, by simpa using idsS_len oR, rfl⟩, ?_⟩
  rintro m σ2 H3 ⟨G3, lf, ps, gs, left, v4, v5, v6, rfl, st3, ofd, olf, nfl, hgs, gw, lgl, rfl⟩
  have ell := st3.tell olf.g olf.h0 olf.at_
  refine (gt_test (gv_eqNil (neg := true) (gv_var rfl) upd_same (gl_lst ga_nil (by decide)))) H3 ell.sub _ fun H4 e4 => ?_
  cases left with
  | nil =>
    rw [if_neg (by simp)]
    dsimp only
    have st4 := st3.grow e4
    have of4 := ofd.grow e4
    have gf := gw.fin
    subst gf
    exact s_ret st4.sub (gv_var rfl) fun H5 e5 => k fd ps _ H5 ((st4.grow e5).tell of4.g of4.h0 (of4.grow e5).at_) of4.h0 upd_same (hgs.mono (Same.put of4.g))
  | cons x lr =>
    rw [if_pos (by simp)]
    refine ⟨fun σ' H' => ∃ m', m' < (x :: lr).length ∧ ∃ G2 lf ps gs left v4 v5 v6, σ' = [some (.ref p), some (.ref d), some (.ref fd), some (.ref lf), v4, v5, v6, none] ∧ Stp G H G2 H' ∧ Own H G2 fd H' (.lst (ps.map V.ref)) ∧ Own H G2 lf H' (sL left) ∧ fd ≠ lf ∧ GrsAt H G2 ps gs ∧ GW (ctb tb) R gs left ∧ gs.length + left.length ≤ 10 ∧ m' = left.length, fun _ _ z => z, ?_⟩
    have st4 := st3.grow e4
    have of4 := ofd.grow e4
    have ol4 := olf.grow e4
    have lx : lr.length ≤ 9 := by rw [List.length_cons] at lgl; omega
    refine q_pop (y := V.str x) (xs := lr.map V.str) rfl ol4.at_ (by rw [List.length_map]; omega) fun gp hgp => ?_
    have st5 : Stp G H G3 (upd H4 lf (sL lr)) := st4.writeO ol4
    have ngf : fd ≠ gp := fun z => by rw [← z, of4.at_] at hgp; cases hgp
    have ngl : gp ≠ lf := fun z => by rw [z, ol4.at_] at hgp; cases hgp
    have hgp5 : (upd H4 lf (sL lr)) gp = none := by rw [upd_ne ngl]; exact hgp
    have st6 : Stp G H G3 (upd (upd H4 lf (sL lr)) gp (sL [x])) := st5.hide hgp5
    have ofd6 : Own H G3 fd (upd (upd H4 lf (sL lr)) gp (sL [x])) (.lst (ps.map V.ref)) := (of4.other (u := sL lr) nfl).other (u := sL [x]) ngf
    have olf6 : Own H G3 lf (upd (upd H4 lf (sL lr)) gp (sL [x])) (sL lr) := (ol4.write (u := sL lr)).other (u := sL [x]) (Ne.symm ngl)
    have ogp6 : Own H G3 gp (upd (upd H4 lf (sL lr)) gp (sL [x])) (sL [x]) := ⟨st4.keep.free hgp, st5.sub.non hgp5, upd_same⟩
    show tSeq _ _ _ _ (upd (upd H4 lf (sL lr)) gp (sL [x]))
    generalize upd (upd H4 lf (sL lr)) gp (sL [x]) = H6 at *
    refine q_of (s_for (Pre := Fr0) (G0 := G) (H0 := H) (ds := List.range R.length) (up := upN 5 fun i => .int (i : Nat)) (Iv := fun (i : Nat) σ2 G5 H5 => ∃ v5 v6 lf gr rs, σ2 = [some (.ref p), some (.ref d), some (.ref fd), some (.ref lf), some (.ref gp), v5, v6, none] ∧ Same G3 G5 ∧ Own H G5 fd H5 (.lst (ps.map V.ref)) ∧ Own H G5 gp H5 (sL gr) ∧ Own H G5 lf H5 (sL rs) ∧ fd ≠ lf ∧ gp ≠ lf ∧ GR (ctb tb) R x lr i gr rs)
      st6 (gi_range1 (n := R.length) (gv_lenD (gv_var rfl) (st6.ex _ _ hX.dict) (by rw [List.length_map])) (by omega)) trivial (by
        rintro _ _ _ _ _ e ⟨v5, v6, lf, gr, rs, h1, h2, h3, h4, h5, h6⟩
        exact ⟨v5, v6, lf, gr, rs, h1, h2, h3.grow e, h4.grow e, h5.grow e, h6⟩) (fun G5 H5 s5 => ⟨_, _, lf, [x], lr, rfl, s5.ex, ofd6.step s5, ogp6.step s5, olf6.step s5, nfl, ngl, GR.start gw.nd⟩) (fun G5 H5 s5 i dd hdd σ2 G7 H7 lp iv => ?_) fun G7 H7 σ2 lp iv => ?_)
    · obtain ⟨v5, v6, lf, gr, rs, rfl, eG, ofd, ogp, olf, nfl, ngl, ri⟩ := iv
      have gin : ∀ y ∈ gr, y ∈ R.map (·.1) := fun y hy => gw.inn y (ri.inn y hy)
      have lgr : gr.length ≤ 10 := by
        have := nodup_len ri.nd gin
        rw [List.length_map] at this
        omega
      have rin : ∀ y ∈ rs, y ∈ R.map (·.1) := fun y hy => by
        rw [ri.rst] at hy
        exact gw.inn y (List.mem_cons_of_mem _ (List.mem_filter.mp hy).1)
      have lrs : rs.length ≤ 9 := by
        rw [ri.rst]
        exact Nat.le_trans (List.length_filter_le _ _) lx
      -- more
      have tg : (upd G7 gp (sL gr)) lf = none := by rw [upd_ne (Ne.symm ngl)]; exact olf.g
      have eV : Same G7 (upd (upd G7 gp (sL gr)) lf (sL rs)) := (Same.put ogp.g).trans (Same.put tg)
      have eGV : Same G (upd (upd G7 gp (sL gr)) lf (sL rs)) := (st6.ex.trans eG).trans eV
      have hgV : (upd (upd G7 gp (sL gr)) lf (sL rs)) gp = some (sL gr) := by rw [upd_ne ngl]; exact upd_same
      refine q_setN (G := upd (upd G7 gp (sL gr)) lf (sL rs)) (sub_told (sub_told lp.st.sub ogp.at_) olf.at_) (mk := sL (rs.filter (joinsB (ctb tb) R gr))) (gl_lc (pf := joinsB (ctb tb) R gr) (ds := rs) V.str (gi_list (emb := V.str) (gv_var rfl) upd_same) (by omega) (fun _ _ => rfl) (fun y hy => gt_test (gv_call (ga_cons (gv_var rfl) (ga_cons (gv_var rfl) (ga_cons (gv_var rfl) (ga_cons (gv_var rfl) ga_nil)))) (sv_joins (eGV _ _ hp) (ht.mono fs_mono eGV) og (hX.mono1 eGV) oR hgV lgr gin (rin y hy)))) fun y hy _ => gv_var rfl) fun mo H8 e8 hm hm' => ?_
      have omo : Own H G7 mo H8 (sL (rs.filter (joinsB (ctb tb) R gr))) := .made lp.st e8 hm hm'
      have nmf : fd ≠ mo := fun z => by rw [← z, ofd.at_] at hm; cases hm
      have nmg : gp ≠ mo := fun z => by rw [← z, ogp.at_] at hm; cases hm
      have nml : lf ≠ mo := fun z => by rw [← z, olf.at_] at hm; cases hm
      have lp8 := (lp.grow e8).tell omo
      have up8 : ∀ {q o}, q ≠ mo → Own H G7 q H7 o → Own H (upd G7 mo (sL (rs.filter (joinsB (ctb tb) R gr)))) q H8 o := fun n w => ⟨w.h0, by rw [upd_ne n]; exact w.g, e8 _ _ w.at_⟩
      have ofd8 := up8 nmf ofd
      have ogp8 := up8 nmg ogp
      have olf8 := up8 nml olf
      have eG8 : Same G7 (upd G7 mo (sL (rs.filter (joinsB (ctb tb) R gr)))) := Same.put omo.g
      have hmo : (upd G7 mo (sL (rs.filter (joinsB (ctb tb) R gr)))) mo = some (sL (rs.filter (joinsB (ctb tb) R gr))) := upd_same
      generalize upd G7 mo (sL (rs.filter (joinsB (ctb tb) R gr))) = G8 at *
      have lmo : (rs.filter (joinsB (ctb tb) R gr)).length ≤ 9 := Nat.le_trans (List.length_filter_le _ _) lrs
      refine q_of (s_extend lp8.st.sub (gv_var rfl) (gv_var rfl) hmo ogp8.at_ (by rw [List.length_map, List.length_map]; omega) fun H9 e9 => ?_)
      have lp9 := (lp8.grow e9).write (u := sL (gr ++ rs.filter (joinsB (ctb tb) R gr))) (ogp8.grow e9) (by simp)
      have ofd9 := (ofd8.grow e9).other (u := sL (gr ++ rs.filter (joinsB (ctb tb) R gr))) ngf
      have ogp9 := (ogp8.grow e9).write (u := sL (gr ++ rs.filter (joinsB (ctb tb) R gr)))
      have olf9 := (olf8.grow e9).other (u := sL (gr ++ rs.filter (joinsB (ctb tb) R gr))) (Ne.symm ngl)
      have el : (HO.lst (gr.map V.str ++ (rs.filter (joinsB (ctb tb) R gr)).map V.str)) = sL (gr ++ rs.filter (joinsB (ctb tb) R gr)) := by rw [sL, List.map_append]
      rw [el]
      generalize upd H9 gp (sL (gr ++ rs.filter (joinsB (ctb tb) R gr))) = H10 at *
      have eV2 : Same G8 (upd G8 lf (sL rs)) := Same.put olf9.g
      refine s_setN (G := upd G8 lf (sL rs)) (sub_told lp9.st.sub olf9.at_) (mk := sL (rs.filter fun y => !decide (y ∈ rs.filter (joinsB (ctb tb) R gr)))) (gl_lc (pf := fun y => !decide (y ∈ rs.filter (joinsB (ctb tb) R gr))) (ds := rs) V.str (gi_list (emb := V.str) (gv_var rfl) upd_same) (by omega) (fun _ _ => rfl) (fun y hy => gt_test (gv_op (gv_var rfl) (gv_var rfl) (rv_inS (neg := true) (eV2 _ _ hmo)))) fun y hy _ => gv_var rfl) fun lf2 H11 e11 hl2 hl2' => ?_
      have nl2 : ∀ {q o}, Own H G8 q H10 o → q ≠ lf2 := fun w z => by rw [← z, w.at_] at hl2; cases hl2
      exact ⟨G8, lp9.grow e11, _, _, lf2, _, _, rfl, eG.trans eG8, ofd9.grow e11, ogp9.grow e11, .made lp9.st e11 hl2 hl2', nl2 ofd9, nl2 ogp9, ri.turn gw.nd⟩
    · obtain ⟨v5, v6, lf, gr, rs, rfl, eG, ofd, ogp, olf, nfl, ngl, ri⟩ := iv
      rw [List.length_range] at ri
      obtain ⟨ec, gw'⟩ := gw.next nd ri
      have lrs : rs.length ≤ lr.length := by
        rw [ri.rst]
        exact List.length_filter_le _ _
      have gin : ∀ y ∈ gr, y ∈ R.map (·.1) := fun y hy => gw.inn y (ri.inn y hy)
      have lgr : gr.length ≤ 10 := by
        have := nodup_len ri.nd gin
        rw [List.length_map] at this
        omega
      have lps : ps.length = gs.length := hgs.length
      dsimp only
      refine s_appendV (G := upd G7 gp (sL gr)) (sub_told lp.st.sub ogp.at_) (gv_var rfl) (gl_sorted (gv_var rfl) upd_same (by omega)) ofd.at_ (by rw [List.length_map]; rw [List.length_cons] at lgl; omega) fun q H8 e8 hq hq' => ?_
      have oq : Own H G7 q H8 (sL (sortS gr)) := .made lp.st e8 hq hq'
      have nqf : fd ≠ q := fun z => by rw [← z, ofd.at_] at hq; cases hq
      have nql : lf ≠ q := fun z => by rw [← z, olf.at_] at hq; cases hq
      have lp8 := (lp.grow e8).tell oq
      have ofd8 : Own H (upd G7 q (sL (sortS gr))) fd H8 (.lst (ps.map V.ref)) := ⟨ofd.h0, by rw [upd_ne nqf]; exact ofd.g, e8 _ _ ofd.at_⟩
      have olf8 : Own H (upd G7 q (sL (sortS gr))) lf H8 (sL rs) := ⟨olf.h0, by rw [upd_ne nql]; exact olf.g, e8 _ _ olf.at_⟩
      refine ⟨rs.length, by rw [List.length_cons]; omega, _, lf, ps ++ [q], gs ++ [sortS gr], rs, _, _, _, rfl, (lp8.write ofd8 (by simp)).st, ?_, olf8.other (Ne.symm nfl), nfl, ?_, gw', ?_, rfl⟩
      · rw [List.map_append]
        exact ofd8.write
      · exact ((hgs.mono eG).mono (Same.put oq.g)).snoc ⟨oq.h0, upd_same⟩
      · rw [List.length_append, List.length_singleton]
        rw [List.length_cons] at lgl
        omega
end
end K25

/-! F35 -/
namespace K25
open PySem PySem.Spec PyProof.Rows L2
/-! ### the state of the law: tables, rows -/
structure LSt (CT : Addr) (H0 G H : Hp) (a s d : Addr) (tb : Tbs) (R : Rws) (k : Addr) (ad pa ra : Str → Addr) : Prop where
  tab : TabX CT G H a s (ctb tb) R k ad
  ado : AdO H0 G ad (ctb tb)
  rws : RowsX G H d R pa ra
  rwo : RowsO H0 G d (R.map (·.1)) ra
  nad : ∀ t ∈ (ctb tb).map (·.1), ad t ≠ d
  nar : ∀ t ∈ (ctb tb).map (·.1), ∀ i ∈ R.map (·.1), ad t ≠ ra i
  ok : RwOk (ctb tb) R
def LM (d : Addr) (tb : Tbs) (R : Rws) (ad ra : Str → Addr) : List Addr := d :: ((R.map (·.1)).map ra ++ (ctb tb).map fun t => ad t.1)
section
variable {d : Addr} {tb : Tbs} {R : Rws} {ad ra : Str → Addr}
theorem LM.d_mem : d ∈ LM d tb R ad ra := List.mem_cons_self
theorem LM.r_mem {i : Str} (h : i ∈ R.map (·.1)) : ra i ∈ LM d tb R ad ra := List.mem_cons_of_mem _ (List.mem_append_left _ (List.mem_map.mpr ⟨i, h, rfl⟩))
theorem LM.a_mem {t : Str} (h : t ∈ (ctb tb).map (·.1)) : ad t ∈ LM d tb R ad ra := List.mem_cons_of_mem _ (List.mem_append_right _ (by obtain ⟨z, hz, rfl⟩ := List.mem_map.mp h; exact List.mem_map.mpr ⟨z, hz, rfl⟩))
theorem LM.cases {m : Addr} (h : m ∈ LM d tb R ad ra) : m = d ∨ (∃ i ∈ R.map (·.1), m = ra i) ∨ ∃ t ∈ (ctb tb).map (·.1), m = ad t := by
  unfold LM at h
  rcases List.mem_cons.mp h with h | h
  · exact .inl h
  · rcases List.mem_append.mp h with h | h
    · obtain ⟨i, hi, rfl⟩ := List.mem_map.mp h
      exact .inr (.inl ⟨i, hi, rfl⟩)
    · obtain ⟨t, ht, rfl⟩ := List.mem_map.mp h
      exact .inr (.inr ⟨t.1, List.mem_map.mpr ⟨t, ht, rfl⟩, rfl⟩)
end
theorem dropK_rows {α : Type} (R : List (Str × α)) (f : Str → V) (x : Str) : dropK (R.map fun q => ((Sum.inr q.1 : Key), f q.1)) (Sum.inr x) = (dropD R x).map fun q => ((Sum.inr q.1 : Key), f q.1) := by
  unfold dropK dropD
  rw [List.filter_map]
  congr 1
  refine List.filter_congr fun q _ => ?_
  show decide _ = decide _
  exact decide_eq_decide.mpr ⟨fun h (z : q.1 = x) => h (congrArg Sum.inr z), fun h z => h (Sum.inr.inj z)⟩
theorem rwOk_drop {tb : Tbs} {R : Rws} (h : RwOk tb R) (x : Str) : RwOk tb (dropD R x) :=
  ⟨h.nd.sublist ((List.filter_sublist).map _), fun q hq => h.nm q (List.mem_filter.mp hq).1, fun q hq => h.ok q (List.mem_filter.mp hq).1, Nat.le_trans (List.length_filter_le _ _) h.len⟩
theorem putK_row (r : Row) (f : Str) (x : Option Str) : putK (rowK r) (Sum.inr f) (ov x) = rowK (putD r f x) := by
  have h := rowK_prd (fun _ => none) r
  unfold putK putD
  rw [any_keys h]
  by_cases m : f ∈ r.map (·.1)
  · rw [if_pos (decide_eq_true m), if_pos m]
    unfold rowK
    rw [List.map_map, List.map_map]
    refine List.map_congr_left fun q _ => ?_
    by_cases e : q.1 = f
    · subst e
      simp
    · have e2 : ¬ (Sum.inr q.1 : Key) = Sum.inr f := fun z => e (Sum.inr.inj z)
      simp [e, e2]
  · rw [if_neg (by simpa using m), if_neg m]
    unfold rowK
    rw [List.map_append]
    rfl
def clr (r : Row) (fs : List Str) : Row := fs.foldl (fun r f => putD r f none) r
theorem merge_clr : ∀ (fs : List Str) (r : Row), mergeK (rowK r) (fs.map fun f => ((Sum.inr f : Key), V.non)) = rowK (clr r fs)
  | [], _ => rfl
  | f :: fs, r => by
    show mergeK (putK (rowK r) (Sum.inr f) (ov none)) (fs.map fun f => ((Sum.inr f : Key), V.non)) = _
    rw [putK_row, merge_clr fs]
    rfl
theorem putD_keys_in {α : Type} {l : List (Str × α)} {k : Str} {x : α} (h : k ∈ l.map (·.1)) : (putD l k x).map (·.1) = l.map (·.1) := by rw [putD_keys, if_pos h]
theorem clr_row {fs : Flds} : ∀ {l : List Str} {r : Row}, RowC fs r → (∀ f ∈ l, valD fs f = some .tag) → RowC fs (clr r l)
  | [], _, h, _ => h
  | f :: l, r, h, ht => by
    have e := ht f List.mem_cons_self
    have fm : f ∈ r.map (·.1) := by rw [h.ks]; exact List.mem_map.mpr ⟨_, valD_mem e, rfl⟩
    refine clr_row (l := l) ⟨by rw [putD_keys_in fm]; exact h.ks, fun q hq => ?_⟩ fun g hg => ht g (List.mem_cons_of_mem _ hg)
    rcases putD_mem hq with hq | rfl
    · exact h.ok q hq
    · exact ⟨.tag, e, fun s z => by cases z⟩
section
variable {δ : Type} {K : PySem.W.Frag} {σ : L2.St} {G H0 H V : Hp} {D : Ends} {rest : TS} {ds : List δ} {emb : δ → L2.V} {i j : Nat} {tl te t0 t1 t2 td ty : TE} {fd a : Addr} {o : HO} {A : L2.V → Prop} {kvs : List (Key × L2.V)}
theorem q_setW (s : Sub G H) (h : Gw A te σ G) (k : ∀ v H', Same H H' → A v → rest D (σ.set i (some v)) H') : tSeq (tAsg te (gName i)) rest D σ H := h H s _ k
/-- the walked list is found through a thing of one's own -/
theorem gi_listNT (h : Gls tl σ (upd G fd o) (ds.map emb)) : GI (fun H => H fd = some o) (iList K tl) (gName j) σ G ds (upN j emb) := fun H s c R r =>
  h H (sub_told s c) _ fun p H1 e1 hp h1 => ⟨p, rfl, ⟨_, SqL.of h1⟩, r _ (upd G p _) H1 (((Stp.refl s).grow e1).tell (s.non hp) hp h1) (wk_list upd_same)⟩
/-- tables.drop(t, i) -/
theorem s_dropT {CT s k' : Addr} {ad : Str → Addr} {tb : Tbs} {R : Rws} {t i : Str} {r : Row} {E : XK} (sG : Sub G H) (sV : Sub V H) (eV : Same G V) (hT : TabX CT G H a s tb R k' ad) (ado : AdO H0 G ad tb) (ht : t ∈ tb.map (·.1)) (e : valD (tOf R t) i = some r) (hi : ∀ u, u ≠ t → i ∉ (tOf R u).map (·.1))
    (h0 : Gv t0 σ V (.ref a)) (h1 : Gv t1 σ V (.str t)) (h2 : Gv t2 σ V (.str i)) (k : ∀ H', Stp G (wo [ad t] H) G H' → TabX CT G H' a s tb (dropD R i) k' ad → D.nx σ H') : tDrop (tMeth CT "drop" (spDrop CT) [] E t0 (tCons t1 (tCons t2 tNil))) D σ H := by
  obtain ⟨dx, hins⟩ := hT.ins
  refine h0 H sV _ fun H1 e1 => ⟨a, dx, _, rfl, (sV.same e1).ins (eV _ _ hins), rfl, (ga_cons h1 (ga_cons h2 ga_nil)) H1 (sV.same e1) _ fun H2 e2 => ?_⟩
  have e02 := e1.trans e2
  refine ⟨a, t, i, r, s, tb, R, k', ad, G, rfl, sG.same e02, hT.mono (Same.refl _) fun _ _ _ z => e02 _ _ z, ado.g, ht, e, fun H' st hk => ?_⟩
  have stF := ((Stp.wo (M := [ad t]) sG).grow e02).mut (fun m hm => wo_in hm) st
  exact k H' stF (hT.drop ht ado.inj hi stF hk)
theorem s_dpop {k : Key} {v : L2.V} (s : Sub G H) (hd : Gv td σ G (.ref a)) (hk : Gv ty σ G (kV k)) (ha : H a = some (.dK kvs)) (hv : valV kvs k = some v) (q : ∀ H1, Same H H1 → D.nx σ (upd H1 a (.dK (dropK kvs k)))) : tDrop (tDPop1 td ty) D σ H :=
  hd H s _ fun H1 e1 => ⟨a, rfl, .inl ⟨kvs, .inl (e1 _ _ ha)⟩, hk H1 (s.same e1) _ fun H2 e2 => ⟨kvs, k, v, e2 _ _ (e1 _ _ ha), rfl, hv, q H2 (e1.trans e2)⟩⟩
end
theorem all2_non {ds : List Str} {more : List (Key × V)} (h : All2 (fun d (kv : Key × V) => kv.1 = Sum.inr (id d) ∧ kv.2 = V.non) ds more) : more = ds.map fun f => ((Sum.inr f : Key), V.non) := by
  induction h with
  | nil => rfl
  | @cons d kv l m r _ ih =>
    rw [List.map_cons, ← ih]
    obtain ⟨k, v⟩ := kv
    obtain ⟨h1, h2⟩ := r
    simp only at h1 h2
    rw [h1, h2]
    rfl
/-- the rows within the law while they are changed -/
structure LCh (CT : Addr) (H0 G H : Hp) (a s d : Addr) (tb : Tbs) (R : Rws) (k : Addr) (ad pa ra : Str → Addr) : Prop where
  tab : TabX CT G H a s (ctb tb) R k ad
  ado : AdO H0 G ad (ctb tb)
  dict : Own H0 G d H (.dK (R.map fun q => (Sum.inr q.1, V.ref (pa q.1))))
  row : ∀ q ∈ R, Own H0 G (ra q.1) H (.dK (rowK q.2.2))
  tup : ∀ q ∈ R, G (pa q.1) = some (.tup [.str q.2.1, .ref (ra q.1)])
  ok : RwOk (ctb tb) R
theorem LCh.grow {CT : Addr} {H0 G H H' : Hp} {a s d : Addr} {tb : Tbs} {R : Rws} {k : Addr} {ad pa ra : Str → Addr} (h : LCh CT H0 G H a s d tb R k ad pa ra) (e : Same H H') : LCh CT H0 G H' a s d tb R k ad pa ra := ⟨h.tab.grow e, h.ado, h.dict.grow e, fun q hq => (h.row q hq).grow e, h.tup, h.ok⟩
theorem LCh.mut {CT : Addr} {H0 G H G' H' : Hp} {a s d : Addr} {tb : Tbs} {R : Rws} {k : Addr} {ad pa ra : Str → Addr} {M : List Addr} (h : LCh CT H0 G H a s d tb R k ad pa ra) (h1 : ∀ t ∈ (ctb tb).map (·.1), ad t ∉ M) (h2 : d ∉ M) (h3 : ∀ q ∈ R, ra q.1 ∉ M) (st : Stp G (wo M H) G' H') : LCh CT H0 G' H' a s d tb R k ad pa ra :=
  ⟨h.tab.mut h1 st, h.ado.mut h.tab h1 st, h.dict.mut h2 st, fun q hq => (h.row q hq).mut (h3 q hq) st, fun q hq => st.ex _ _ (h.tup q hq), h.ok⟩
theorem LCh.step {CT : Addr} {H0 G H G' H' : Hp} {a s d : Addr} {tb : Tbs} {R : Rws} {k : Addr} {ad pa ra : Str → Addr} (h : LCh CT H0 G H a s d tb R k ad pa ra) (st : Stp G H G' H') : LCh CT H0 G' H' a s d tb R k ad pa ra := h.mut (M := []) (fun _ _ => by simp) (by simp) (fun _ _ => by simp) (by rw [wo_nil]; exact st)
section
variable {P : Program} {w : World} {K : PySem.W.Frag} {mg : Str → Option Value} {base : Heap}
def spChanged (CS CT : Addr) : Sp := fun vs H Q _ => ∃ b p dt l a d s tb rs R k ad pa ra G H1, vs = [.ref b, .ref p, .ref a, .ref d] ∧ Sub G H ∧ BagAt G b ∧ G p = some (.tup [.ref dt, .ref l]) ∧ TbsAt G dt tb ∧ TbsG tb ∧ SchAt CS G s (ctb tb) rs ∧ LSt CT H1 G H a s d tb R k ad pa ra ∧ R ≠ [] ∧
  ∀ f R' G' H', Stp G (wo (LM d tb R ad ra) H) G' H' → LSt CT (wo (LM d tb R ad ra) H) G' H' a s d tb R' k ad pa ra → LtV false (.ref f) (groupsD (ctb tb) R') G' → (∀ i ∈ R'.map (·.1), i ∈ R.map (·.1)) → Q (.ref f) H'
abbrev N_w_changed : List Str := ["_law_bag_here", "_law_parts_here", "_law_tables_here", "_law_rows_here", "_law_ident", "_law_one", "_law_table", "_law_row", "_law_field"]
theorem sc_w_changed : FnScope N_w_changed ["_law_bag_here", "_law_parts_here", "_law_tables_here", "_law_rows_here"] (defScope s_w_changed) := ⟨rfl, rfl, rfl, by decide +kernel, rfl, by decide +kernel, by decide +kernel⟩
-- slots: 0 _law_bag_here, 1 _law_parts_here, 2 _law_tables_here, 3 _law_rows_here, 4 _law_ident, 5 _law_one, 6 _law_table, 7 _law_row, 8 _law_field
theorem c_w_changed (T : Tx K mg) : Cal P w K mg base 6 "_law_changed" (spChanged (He.ga K "Schema") (He.ga K "Tables")) := by
  refine ⟨_, _, ["_law_bag_here", "_law_parts_here", "_law_tables_here", "_law_rows_here"], fn_body T.f_w_changed sc_w_changed (fun vs H Q E h => by obtain ⟨_, _, _, _, _, _, _, _, _, _, _, _, _, _, _, _, rfl, _⟩ := h; rfl) (fun cdv A outer s H vs Q E hr h => ?_), T.g_w_changed, T.f_w_changed.kp, T.f_w_changed.bindsN fun _ _ _ _ _ _ us hl => match us, hl with | [_, _, _, _], _ => rfl⟩
  obtain ⟨b, p, dt, l, a, d, sc, tb, rs, R, kk, ad, pa, ra, G, Hx, rfl, sG, hb, hp, ht, og, hS, L, hne, k⟩ := h
  have hu := hu_of hr
  refine ⟨_,
    (pss_cons (ps_set (i := 4) sc_w_changed.nd rfl (Or.inl rfl) (pe_ix (ix_listK rfl) (pe_callB (cr_sortedD rfl) (by rfl) T.b_sorted (by decide +kernel) (pa_cons (pv 3) pa_nil)) (pe_cal (c_w_take T) hr (by decide) rfl (pa_cons (pv 0) (pa_cons (pe_callB call_lenR (by rfl) T.b_len (by decide +kernel) (pa_cons (pv 3) pa_nil)) pa_nil))) (fun _ _ => rfl)))
    (pss_cons (ps_expr (pe_met (c_Tables_drop T) hr (by decide) (pv 2) (pa_cons (pe_ix (ix_tupK rfl) (pe_dget hu (pv 3) (pv 4) (fun _ _ => rfl)) pe_int (fun _ _ => rfl)) (pa_cons (pv 4) pa_nil))))
    (pss_cons (ps_expr (pe_dpop1 (pv 3) (pv 4) ⟨rfl, by rfl, by rfl, by rfl⟩))
    (pss_cons (ps_for PassesOwn.never rfl (pi_listK rfl (pe_slice (sl_listK rfl) (pe_callB (cr_sortedD rfl) (by rfl) T.b_sorted (by decide +kernel) (pa_cons (pv 3) pa_nil)) po_none (po_some pe_int))) (pg_name (i := 5) sc_w_changed.nd rfl (Or.inl rfl))
      (pss_cons (ps_asg (pe_dget hu (pv 3) (pv 5) (fun _ _ => rfl)) (pg_tupK (n := 2) rfl rfl (pgs_cons (pg_name (i := 6) sc_w_changed.nd rfl (Or.inl rfl)) (pgs_cons (pg_name (i := 7) sc_w_changed.nd rfl (Or.inl rfl)) pgs_nil))))
      (pss_cons (ps_expr (pe_dupd (pv 7) (pe_callTy (call_dictP rfl) (by rfl) T.b_dict (by decide +kernel) (pa_cons (pe_lc rfl sc_w_changed.nd (pi_listK rfl (pe_cal (c_w_like T) hr (by decide) rfl (pa_cons (pe_dget hu (pe_ix (ix_tupK rfl) (pv 1) pe_int (fun _ _ => rfl)) (pv 6) (fun _ _ => rfl)) (pa_cons pe_str pa_nil)))) (blkOk_by (own := [("_law_field", 8)]) (N := N_w_changed) (sc := defScope s_w_changed) (by decide +kernel)) (fun _ _ _ _ _ => (pg_name (i := 8) sc_w_changed.nd rfl (Or.inl rfl))) (fun _ _ _ _ _ => pts_nil) (fun _ _ _ _ _ => (pe_tup (pa_cons (pv 8) (pa_cons pe_non pa_nil))))) pa_nil)) ⟨rfl, by rfl, by rfl, by rfl⟩))
      (pss_one (ps_asg (pe_callTy cr_dictD (by rfl) T.b_dict (by decide +kernel) (pa_cons (pv 7) pa_nil)) (pg_sub (pv 2) (pe_tup (pa_cons (pv 6) (pa_cons (pv 5) pa_nil))) (set_own (c_Tables_setitem T) hr (by decide) T.noSeq)))))))
    (pss_one (ps_ret (pe_cal (c_w_groups T) hr (by decide) rfl (pa_cons (pv 1) (pa_cons (pv 3) pa_nil))))))))), ?_⟩
  have oT := ctb_ok og.tok
  have cT := ctb_can tb
  have oR := L.ok
  have nd := oR.nd
  have l10 := oR.len
  obtain ⟨tkv, htd, htp⟩ := ht
  have ids_in : ∀ q ∈ R, q.1 ∈ R.map (·.1) := fun q hq => List.mem_map.mpr ⟨q, hq, rfl⟩
  generalize hH0 : wo (LM d tb R ad ra) H = H0 at *
  have st0 : Stp G H0 G H := by rw [← hH0]; exact Stp.wo sG
  have h0d : H0 d = none := by rw [← hH0]; exact wo_in LM.d_mem
  have h0r : ∀ i ∈ R.map (·.1), H0 (ra i) = none := fun i hi => by rw [← hH0]; exact wo_in (LM.r_mem hi)
  have h0a : ∀ t ∈ (ctb tb).map (·.1), H0 (ad t) = none := fun t ht => by rw [← hH0]; exact wo_in (LM.a_mem ht)
  have C : LCh (He.ga K "Tables") H0 G H a sc d tb R kk ad pa ra := ⟨L.tab, ⟨h0a, L.ado.g, L.ado.inj⟩, ⟨h0d, L.rwo.dg, L.rws.dict⟩, fun q hq => ⟨h0r _ (ids_in q hq), L.rwo.rg _ (ids_in q hq), L.rws.row q hq⟩, L.rws.tup, L.ok⟩
  have keysR : ∀ R : Rws, (R.map fun q => ((Sum.inr q.1 : Key), V.ref (pa q.1))).map (·.1) = (R.map (·.1)).map Sum.inr := fun R => by rw [List.map_map, List.map_map]; rfl
  have lpos : 0 < R.length := List.length_pos_iff.mpr hne
  have gd := L.rwo.dg
  -- ident
  refine q_setW (G := upd G d (.dK (R.map fun q => (Sum.inr q.1, V.ref (pa q.1))))) (sub_told sG C.dict.at_) (gw_ixN (gl_sortedD (ks := R.map (·.1)) (gv_var rfl) upd_same (keysR R) (by rw [List.length_map]; omega)) ((gz_take (hb.mono (Same.put gd)) (gv_var rfl) (gv_lenD (n := R.length) (gv_var rfl) upd_same (by rw [List.length_map])) (by omega) (by omega)).imp fun r hr => by rw [List.length_map, sortS_len, List.length_map]; exact hr)) fun v H1 e1 hv => ?_
  obtain ⟨x, hx, rfl⟩ := List.mem_map.mp hv
  obtain ⟨⟨x, t, r⟩, hq, rfl⟩ := List.mem_map.mp (sortS_mem.mp hx)
  have C1 := C.grow e1
  have st1 := st0.grow e1
  have htt : t ∈ (ctb tb).map (·.1) := oR.tab hq
  have eR : valD (tOf R t) x = some r := valD_of (tOf_nodup nd t) (tOf_mem.mpr hq)
  have xt : ∀ u, u ≠ t → x ∉ (tOf R u).map (·.1) := fun u hu hm => by
    obtain ⟨r', hr'⟩ := tOf_ids.mp hm
    have e1 := valD_of nd hr'
    rw [valD_of nd hq] at e1
    cases e1
    exact hu rfl
  -- drop
  refine q_of (s_dropT (H0 := H0) (V := upd G d (.dK (R.map fun q => (Sum.inr q.1, V.ref (pa q.1))))) st1.sub (sub_told st1.sub C1.dict.at_) (Same.put gd) C1.tab C1.ado htt eR xt (gv_var rfl) (gv_op (gv_dget (k := Sum.inr x) (gv_var rfl) (gv_var rfl) upd_same (vP_of nd pa _ hq)) gv_c (rv_ixT (Same.put gd _ _ (C1.tup _ hq)) (at0 _ _))) (gv_var rfl) fun H2 s2 hT2 => ?_)
  have hMt : ∀ m ∈ [ad t], H0 m = none := fun m hm => by rw [List.mem_singleton.mp hm]; exact h0a t htt
  have st2 := st1.mut hMt s2
  have nd2 := (rwOk_drop oR x).nd
  have inR : ∀ q ∈ dropD R x, q ∈ R := fun q hq => (List.mem_filter.mp hq).1
  have od2 : Own H0 G d H2 (.dK (R.map fun q => (Sum.inr q.1, V.ref (pa q.1)))) := C1.dict.mut (M := [ad t]) (by simpa using (L.nad t htt).symm) s2
  have or2 : ∀ q ∈ R, Own H0 G (ra q.1) H2 (.dK (rowK q.2.2)) := fun q hq => (C1.row q hq).mut (M := [ad t]) (by simpa using (L.nar t htt _ (ids_in q hq)).symm) s2
  have oa2 : AdO H0 G ad (ctb tb) := C1.ado
  -- pop
  refine q_of (s_dpop (G := upd G d (.dK (R.map fun q => (Sum.inr q.1, V.ref (pa q.1))))) (sub_told st2.sub od2.at_) (gv_var rfl) (k := Sum.inr x) (gv_var rfl) od2.at_ (vP_of nd pa _ hq) fun H3 e3 => ?_)
  rw [dropK_rows R (fun i => V.ref (pa i)) x]
  have C3 : LCh (He.ga K "Tables") H0 G (upd H3 d (.dK ((dropD R x).map fun q => (Sum.inr q.1, V.ref (pa q.1))))) a sc d tb (dropD R x) kk ad pa ra :=
    ⟨hT2.mono (Same.refl _) fun t ht o e => by rw [upd_ne (L.nad t ht)]; exact e3 _ _ e, oa2, (od2.grow e3).write, fun q hq => ((or2 q (inR q hq)).grow e3).other (L.rwo.ne _ (ids_in q (inR q hq))), fun q hq => C1.tup q (inR q hq), rwOk_drop oR x⟩
  have st3 : Stp G H0 G (upd H3 d (.dK ((dropD R x).map fun q => (Sum.inr q.1, V.ref (pa q.1))))) := (st2.grow e3).writeO (od2.grow e3)
  have sub3 : ∀ i ∈ (dropD R x).map (·.1), i ∈ R.map (·.1) := fun i hi => by
    obtain ⟨q, hq, rfl⟩ := List.mem_map.mp hi
    exact ids_in q (inR q hq)
  generalize upd H3 d (.dK ((dropD R x).map fun q => (Sum.inr q.1, V.ref (pa q.1)))) = H4 at C3 st3 ⊢
  generalize hR1 : dropD R x = R1 at *
  obtain ⟨ys, ey, ly, my⟩ := cutV_mapG V.str (sortS (R1.map (·.1))) none (some 2)
  have lR1 := C3.ok.len
  have gd3 := C3.dict.g
  refine q_of (s_for (Pre := fun H => H d = some (.dK (R1.map fun q => (Sum.inr q.1, V.ref (pa q.1))))) (G0 := G) (H0 := H0) (ds := ys) (up := upN 5 V.str) (Iv := fun (j : Nat) σ2 G5 H5 => ∃ v5 v6 v7 R5, σ2 = [some (.ref b), some (.ref p), some (.ref a), some (.ref d), some (.str x), v5, v6, v7, none] ∧ Same G G5 ∧ R5.map (·.1) = R1.map (·.1) ∧ LCh (He.ga K "Tables") H0 G5 H5 a sc d tb R5 kk ad pa ra)
    st3 (gi_listNT (emb := V.str) (gl_slN (gl_sortedD (ks := R1.map (·.1)) (gv_var rfl) upd_same (keysR R1) (by rw [List.length_map]; omega)) to_none to_int ey)) C3.dict.at_ (by
      rintro _ _ _ _ _ e ⟨v5, v6, v7, R5, h1, h2, h3, h4⟩
      exact ⟨v5, v6, v7, R5, h1, h2, h3, h4.grow e⟩) (fun G5 H5 s5 => ⟨_, _, _, R1, rfl, s5.ex, rfl, C3.step s5⟩) (fun G5 H5 s5 j y hy σ2 G6 H6 lp iv => ?_) fun G6 H6 σ2 lp iv => ?_)
  · obtain ⟨v5, v6, v7, R5, rfl, eG, ek, C5⟩ := iv
    have ym : y ∈ R5.map (·.1) := by rw [ek]; exact sortS_mem.mp (my y (List.mem_of_getElem? hy))
    obtain ⟨⟨y, t, r⟩, hq, rfl⟩ := List.mem_map.mp ym
    have iR5 : ∀ q ∈ R5, q.1 ∈ R.map (·.1) := fun q hq => sub3 _ (by rw [← ek]; exact List.mem_map.mpr ⟨q, hq, rfl⟩)
    have oR5 := C5.ok
    have nd5 := oR5.nd
    obtain ⟨fs', e1, oC⟩ := oR5.ok _ hq
    obtain ⟨fs, ef, rfl⟩ := ctb_some og.nd e1
    have ogf := og.ok _ (valD_mem ef)
    replace oC : RowC (cfs fs) r := oC
    have okf := (oT.fs e1).1
    have htt : t ∈ (ctb tb).map (·.1) := oR5.tab hq
    obtain ⟨fv, hfv, fa, rfl, hfa⟩ := (htp.get t).1 fs ef
    have gd5 := C5.dict.g
    refine q_two (G := upd G6 d (.dK (R5.map fun q => (Sum.inr q.1, V.ref (pa q.1))))) (sub_told lp.st.sub C5.dict.at_) (gv_dget (k := Sum.inr y) (gv_var rfl) (gv_var rfl) upd_same (vP_of nd5 pa _ hq)) (Same.put gd5 _ _ (C5.tup _ hq)) fun H7 e7 => ?_
    have lp7 := lp.grow e7
    have C7 := C5.grow e7
    have orow : Own H0 G6 (ra y) H7 (.dK (rowK r)) := C7.row _ hq
    have okr : r.length ≤ 6 := by
      have h1 := congrArg List.length oC.ks
      rw [List.length_map, List.length_map] at h1
      have := okf.len
      omega
    have lft : (fLike (srtD fs) "tag").length ≤ 6 := by have := fLike_len okf "tag"; rw [fLike_cfs] at this; exact this
    have ndt : (fLike (srtD fs) "tag").Nodup := by
      unfold fLike
      exact (srtD_nodup ogf.nd).sublist ((List.filter_sublist).map _)
    have tagv : ∀ f ∈ fLike (srtD fs) "tag", valD (cfs fs) f = some .tag := fun f hf => by
      obtain ⟨g, h1, h2⟩ := (fLike_mem okf.nd).mp (by rw [fLike_cfs]; exact hf)
      cases g with
      | mark ws => exact absurd h2 (show ¬ (("mark" : Str) = "tag") by decide)
      | link u => exact absurd h2 (show ¬ (("link" : Str) = "tag") by decide)
      | tag => exact h1
    refine q_of (s_dupd lp7.st.sub (gv_var rfl) orow.at_ (ge_dictP (ds := fLike (srtD fs) "tag") id (fun _ v _ => v = V.non) (fun _ _ _ _ _ h => h) (by rw [List.map_id]; exact ndt) (gm_imp (gm_lc (pf := fun _ => true) (ds := fLike (srtD fs) "tag") (fun f v G' => ∃ p w, v = V.ref p ∧ G' p = some (.tup [.str (id f), w]) ∧ w = V.non) (fun _ _ _ _ e ⟨p, w, h1, h2, h3⟩ => ⟨p, w, h1, e _ _ h2, h3⟩) (gi_listN (emb := V.str) (gn_like (gv_dget (k := Sum.inr t) (gv_op (gv_var rfl) gv_c (rv_ixT (eG _ _ hp) (at0 _ _))) (gv_var rfl) (eG _ _ htd) hfv) gv_c (hfa.mono fld_mono eG) ogf.nd ogf.len)) (by omega) (fun _ _ => rfl) (fun _ _ _ _ => gt_yes) (fun f hf _ G' e => ge_tup (gxa_consV (gv_var rfl) (gxa_consV gv_c (gxa_nil ⟨few rfl, fun p gp => ⟨p, V.non, rfl, upd_same, rfl⟩⟩)))) fun _ _ _ _ => trivial) fun o G' ho => ?_)) fun v G8 H8 s8 hv => ?_)
    · obtain ⟨xs, rfl, al⟩ := ho
      rw [List.filter_eq_self.mpr (fun _ _ => rfl)] at al
      exact ⟨xs, rfl, al⟩
    obtain ⟨Dd, more, rfl, hDd, al⟩ := hv
    have em := all2_non al
    have lp8 := lp7.step s8
    have C8 := C7.step s8
    have orow8 : Own H0 G8 (ra y) H8 (.dK (rowK r)) := C8.row _ hq
    refine ⟨Dd, more, rfl, fun z => ?_, s8.sub.rd hDd, by unfold rowK; rw [em, List.length_map, List.length_map]; omega, ?_⟩
    · rw [← z, orow8.g] at hDd; cases hDd
    rw [em, merge_clr]
    have oC2 : RowC (cfs fs) (clr r (fLike (srtD fs) "tag")) := clr_row oC tagv
    generalize hcr : clr r (fLike (srtD fs) "tag") = r2 at *
    have iy := iR5 _ hq
    have s9 : Stp G8 (wo [ra y] H8) G8 (upd H8 (ra y) (.dK (rowK r2))) := orow8.stp lp8.st.sub (Same.refl _)
    have hMr : ∀ m ∈ [ra y], H0 m = none := fun m hm => by rw [List.mem_singleton.mp hm]; exact h0r y iy
    have lp9 := lp8.mut hMr (fun m hm ob u => by rw [List.mem_singleton.mp hm, orow8.at_]; simp) s9
    have orow9 : Own H0 G8 (ra y) (upd H8 (ra y) (.dK (rowK r2))) (.dK (rowK r2)) := orow8.write
    have hT9 : TabX (He.ga K "Tables") G8 (upd H8 (ra y) (.dK (rowK r2))) a sc (ctb tb) R5 kk ad := C8.tab.mut (M := [ra y]) (fun t ht => by simpa using L.nar t ht _ iy) s9
    have oa9 := C8.ado
    have od9 := C8.dict.mut (M := [ra y]) (by simpa using (L.rwo.ne _ iy).symm) s9
    have or9 : ∀ q ∈ R5, q.1 ≠ y → Own H0 G8 (ra q.1) (upd H8 (ra y) (.dK (rowK r2))) (.dK (rowK q.2.2)) := fun q hq ne => (C8.row q hq).other fun z => ne (L.rwo.inj _ (iR5 q hq) _ iy z)
    have tup9 := C8.tup
    dsimp only
    generalize upd H8 (ra y) (.dK (rowK r2)) = H9 at *
    have yone : ∀ q ∈ R5, q.1 = y → q.2.1 = t := fun q hq' e => by
      have e1 := valD_of nd5 hq'
      rw [e, valD_of nd5 hq] at e1
      have := Option.some.inj e1
      rw [← this]
    have eG8 := eG.trans s8.ex
    refine s_asgTabV (H0 := H0) lp9.st.sub (sub_told lp9.st.sub orow9.at_) (gd_dictD (gv_var rfl) upd_same) htt (fun _ => gv_var rfl) (fun _ => gv_var rfl) (fun _ => gv_var rfl) hT9 oa9 (hS.mono eG8) oT cT oR5 e1 oC2 (oR5.nm _ hq) yone fun G10 H10 s10 oa10 hT10 => ?_
    have hMt : ∀ m ∈ [ad t], H0 m = none := fun m hm => by rw [List.mem_singleton.mp hm]; exact h0a t htt
    have ymem : y ∈ R5.map (·.1) := List.mem_map.mpr ⟨_, hq, rfl⟩
    have kput : (putD R5 y (t, r2)).map (·.1) = R5.map (·.1) := putD_keys_in ymem
    refine ⟨G10, lp9.mut hMt (fun m hm ob u => by
      rw [List.mem_singleton.mp hm]
      obtain ⟨kvs, ek, _⟩ := hT9.inn t htt
      rw [show H9 (ad t) = _ from ek]; simp) s10, _, _, _, putD R5 y (t, r2), rfl, eG8.trans s10.ex, by rw [kput]; exact ek, hT10, oa10, ?_, fun q hq' => ?_, fun q hq' => ?_, ⟨by rw [kput]; exact nd5, fun q hq' => ?_, fun q hq' => ?_, ?_⟩⟩
    · have e5 : ((putD R5 y (t, r2)).map fun q => ((Sum.inr q.1 : Key), V.ref (pa q.1))) = R5.map fun q => ((Sum.inr q.1 : Key), V.ref (pa q.1)) := by
        have := congrArg (List.map fun i : Str => ((Sum.inr i : Key), V.ref (pa i))) kput
        rw [List.map_map, List.map_map] at this
        exact this
      rw [e5]
      exact od9.mut (M := [ad t]) (by simpa using (L.nad t htt).symm) s10
    · have nin : ra q.1 ∉ [ad t] := by
        have : q.1 ∈ R5.map (·.1) := by rw [← kput]; exact List.mem_map.mpr ⟨q, hq', rfl⟩
        obtain ⟨z, hz, ez⟩ := List.mem_map.mp this
        simpa using (L.nar t htt _ (by rw [← ez]; exact iR5 z hz)).symm
      have e6 := valD_of (l := putD R5 y (t, r2)) (by rw [kput]; exact nd5) hq'
      rw [putD_val] at e6
      by_cases e : q.1 = y
      · rw [if_pos e] at e6
        have e7 := Option.some.inj e6
        rw [e, ← e7]
        rw [e] at nin
        exact orow9.mut (M := [ad t]) nin s10
      · rw [if_neg e] at e6
        have := valD_mem e6
        exact (or9 q this e).mut (M := [ad t]) nin s10
    · have e6 := valD_of (l := putD R5 y (t, r2)) (by rw [kput]; exact nd5) hq'
      rw [putD_val] at e6
      by_cases e : q.1 = y
      · rw [if_pos e] at e6
        have e7 := Option.some.inj e6
        rw [e, ← e7]
        exact s10.ex _ _ (tup9 _ hq)
      · rw [if_neg e] at e6
        exact s10.ex _ _ (tup9 q (valD_mem e6))
    · rcases putD_mem hq' with hq' | rfl
      · exact oR5.nm q hq'
      · exact oR5.nm (y, (t, r)) hq
    · rcases putD_mem hq' with hq' | rfl
      · exact oR5.ok q hq'
      · exact ⟨cfs fs, e1, oC2⟩
    · have := congrArg List.length kput
      rw [List.length_map, List.length_map] at this
      rw [this]; exact oR5.len
  · obtain ⟨v5, v6, v7, R5, rfl, eG, ek, C5⟩ := iv
    have iR5 : ∀ q ∈ R5, q.1 ∈ R.map (·.1) := fun q hq => sub3 _ (by rw [← ek]; exact List.mem_map.mpr ⟨q, hq, rfl⟩)
    have iR5' : ∀ i ∈ R5.map (·.1), i ∈ R.map (·.1) := fun i hi => by obtain ⟨q, hq, rfl⟩ := List.mem_map.mp hi; exact iR5 q hq
    dsimp only
    obtain ⟨M, hM⟩ : ∃ M, M = d :: (R5.map (·.1)).map ra := ⟨_, rfl⟩
    have dM : d ∈ M := by rw [hM]; exact List.mem_cons_self
    have rM : ∀ i ∈ R5.map (·.1), ra i ∈ M := fun i hi => by rw [hM]; exact List.mem_cons_of_mem _ (List.mem_map.mpr ⟨i, hi, rfl⟩)
    have Mc : ∀ m ∈ M, G6 m = none ∧ H6 m ≠ none := fun m hm => by
      rw [hM] at hm
      rcases List.mem_cons.mp hm with rfl | hm
      · exact ⟨C5.dict.g, by rw [C5.dict.at_]; simp⟩
      · obtain ⟨i, hi, rfl⟩ := List.mem_map.mp hm
        obtain ⟨q, hq, rfl⟩ := List.mem_map.mp hi
        exact ⟨(C5.row q hq).g, by rw [(C5.row q hq).at_]; simp⟩
    have gM : ∀ m ∈ M, G6 m = none := fun m hm => (Mc m hm).1
    have eT : Same G6 (tel G6 H6 M) := tel_same gM
    have hXT : RowsX (tel G6 H6 M) (tel G6 H6 M) d R5 pa ra := ⟨by rw [tel_in dM]; exact C5.dict.at_, fun q hq => eT _ _ (C5.tup q hq), fun q hq => by rw [tel_in (rM _ (List.mem_map.mpr ⟨q, hq, rfl⟩))]; exact (C5.row q hq).at_⟩
    refine ⟨_, rfl, _, rfl, p, dt, l, d, tb, R5, pa, ra, tel G6 H6 M, rfl, tel_sub lp.st.sub, eT _ _ (eG _ _ hp), ⟨tkv, eT _ _ (eG _ _ htd), (htp.mono fs_mono eG).mono fs_mono eT⟩, og, hXT, C5.ok, fun f ps G' H' st hf hfl hgs => ?_⟩
    have stG : Stp G6 H6 (wo M G') H' := st.untel gM
    have outM : ∀ {c}, H6 c = none → c ∉ M := fun h z => (Mc _ z).2 h
    have CF := C5.step stG
    refine k f R5 (wo M G') H' (lp.st.trans stG) ⟨CF.tab, CF.ado, ⟨CF.dict.at_, CF.tup, fun q hq => (CF.row q hq).at_⟩, ⟨h0d, CF.dict.g, fun i hi => h0r i (iR5' i hi), fun i hi => ?_, fun i hi j hj e => L.rwo.inj i (iR5' i hi) j (iR5' j hj) e, fun i hi => L.rwo.ne i (iR5' i hi)⟩, L.nad, fun t ht i hi => L.nar t ht i (iR5' i hi), C5.ok⟩ ⟨f, ps.map V.ref, rfl, ?_, ?_⟩ iR5'
    · obtain ⟨q, hq, rfl⟩ := List.mem_map.mp hi
      exact (CF.row q hq).g
    · rw [wo_out (outM hf)]; exact hfl
    · clear hfl k
      unfold GrsAt at hgs
      generalize groupsD (ctb tb) R5 = gs at hgs ⊢
      induction hgs with
      | nil => exact .nil
      | cons r _ ih => exact .cons ⟨_, rfl, by rw [wo_out (outM r.1)]; exact r.2⟩ ih
end
end K25

/-! D4 -/
/-! D4: parts and the whole. -/
namespace K25
open PySem PySem.Spec PyProof.Rows L2
theorem nodup_flat {α β : Type} {f : α → List β} : ∀ {l : List α}, (∀ x ∈ l, (f x).Nodup) → l.Pairwise (fun x y => ∀ z, z ∈ f x → z ∉ f y) → (l.flatMap f).Nodup
  | [], _, _ => List.nodup_nil
  | x :: l, h1, h2 => by
    rw [List.pairwise_cons] at h2
    rw [List.flatMap_cons, List.nodup_append]
    refine ⟨h1 x List.mem_cons_self, nodup_flat (fun y hy => h1 y (List.mem_cons_of_mem _ hy)) h2.2, fun a ha b hb e => ?_⟩
    obtain ⟨y, hy, hb⟩ := List.mem_flatMap.mp hb
    exact h2.1 y hy a ha (e ▸ hb)
/-! ### the groups -/
structure GrpOk (tb : Tbs) (R : Rws) (gs : List (List Str)) (l : List Str) : Prop where
  cov : ∀ i ∈ l, i ∈ gs.flatten
  nd : gs.flatten.Nodup
  is : ∀ g ∈ gs, ∃ i ∈ l, g = cmp tb R i
theorem grpOk_of {tb : Tbs} {R : Rws} (nd : (R.map (·.1)).Nodup) (l : List Str) : (∀ i ∈ l, i ∈ R.map (·.1)) → GrpOk tb R (grpsL tb R l) l := by
  refine rev_ind (P := fun l => (∀ i ∈ l, i ∈ R.map (·.1)) → GrpOk tb R (grpsL tb R l) l) (fun _ => ⟨fun i h => (by cases h), List.nodup_nil, fun g h => (by cases h)⟩) (fun l i ih hi => ?_) l
  have ih := ih fun j hj => hi j (List.mem_append_left _ hj)
  have ii := hi i (List.mem_append_right _ (List.mem_singleton.mpr rfl))
  rw [grpsL_snoc]
  split
  · rename_i m
    refine ⟨fun j hj => ?_, ih.nd, fun g hg => let ⟨j, h1, h2⟩ := ih.is g hg; ⟨j, List.mem_append_left _ h1, h2⟩⟩
    rcases List.mem_append.mp hj with hj | hj
    · exact ih.cov j hj
    · rw [List.mem_singleton.mp hj]; exact m
  · rename_i m
    have hc : i ∈ cmp tb R i := cmp_mem.mpr ⟨ii, .here⟩
    refine ⟨fun j hj => ?_, ?_, fun g hg => ?_⟩
    · rw [List.flatten_append]
      rcases List.mem_append.mp hj with hj | hj
      · exact List.mem_append_left _ (ih.cov j hj)
      · rw [List.mem_singleton.mp hj]; exact List.mem_append_right _ (by simpa using hc)
    · rw [List.flatten_append, List.nodup_append]
      refine ⟨ih.nd, by simpa using cmp_nodup nd i, fun a ha b hb e => ?_⟩
      obtain ⟨g, hg, hag⟩ := List.mem_flatten.mp ha
      obtain ⟨j, _, rfl⟩ := ih.is g hg
      have h1 := (cmp_mem.mp hag).2
      have h2 := (cmp_mem.mp (show b ∈ cmp tb R i by simpa using hb)).2
      rw [← e] at h2
      exact m (List.mem_flatten.mpr ⟨_, hg, cmp_mem.mpr ⟨ii, h1.trans h2.symm⟩⟩)
    · rcases List.mem_append.mp hg with hg | hg
      · obtain ⟨j, h1, h2⟩ := ih.is g hg
        exact ⟨j, List.mem_append_left _ h1, h2⟩
      · exact ⟨i, List.mem_append_right _ (List.mem_singleton.mpr rfl), List.mem_singleton.mp hg⟩
theorem groups_ok {tb : Tbs} {R : Rws} (nd : (R.map (·.1)).Nodup) : GrpOk tb R (groupsD tb R) (idsS R) := grpOk_of nd _ fun i hi => idsS_mem.mp hi
section
variable {tb : Tbs} {R : Rws} {gs : List (List Str)} {l g : List Str}
theorem GrpOk.inn (h : GrpOk tb R gs l) (hg : g ∈ gs) {x : Str} (hx : x ∈ g) : x ∈ R.map (·.1) := by
  obtain ⟨i, _, rfl⟩ := h.is g hg
  exact (cmp_mem.mp hx).1
theorem GrpOk.shut (h : GrpOk tb R gs l) (hg : g ∈ gs) {x y : Str} (hx : x ∈ g) (a : Adj tb R x y) : y ∈ g := by
  obtain ⟨i, _, rfl⟩ := h.is g hg
  exact cmp_mem.mpr ⟨a.mem.2, .step (cmp_mem.mp hx).2 a⟩
theorem GrpOk.gnd (h : GrpOk tb R gs l) (hg : g ∈ gs) : g.Nodup := (List.pairwise_flatten.mp h.nd).1 g hg
theorem GrpOk.srt (h : GrpOk tb R gs l) (hg : g ∈ gs) : sortS g = g := by
  obtain ⟨i, _, rfl⟩ := h.is g hg
  exact (sortS_eq (List.Perm.refl _) (cmp_sorted tb R i)).symm
theorem GrpOk.apart (h : GrpOk tb R gs l) : gs.Pairwise fun a b => ∀ x ∈ a, x ∉ b := (List.pairwise_flatten.mp h.nd).2.imp fun h x hx hx' => h x hx x hx' rfl
theorem sub_iff (nd : (R.map (·.1)).Nodup) {q : Str × (Str × Row)} : q ∈ subR R g ↔ q.1 ∈ g ∧ q ∈ R := by
  refine ⟨subR_mem, fun ⟨h1, h2⟩ => List.mem_filterMap.mpr ⟨q.1, h1, ?_⟩⟩
  rw [valD_of nd (k := q.1) (x := q.2) h2]
  rfl
theorem GrpOk.sub_ok (h : GrpOk tb R gs l) (oR : RwOk tb R) (hg : g ∈ gs) : RwOk tb (subR R g) := subR_ok oR (h.gnd hg) fun i hi => h.inn hg hi
theorem GrpOk.ids (h : GrpOk tb R gs l) (hg : g ∈ gs) : sortS ((subR R g).map (·.1)) = g := by
  rw [subR_keys fun i hi => h.inn hg hi]
  exact h.srt hg
end
/-! ### spots, by what they are -/
abbrev ltS (a b : Str) : Prop := a.cps.toList < b.cps.toList
theorem gv_grp {l : List (Str × Option Str)} (v : Str) : (valD (grpOf l) v).getD [] = (l.filter fun q => decide (q.2 = some v)).map (·.1) := by
  refine rev_ind (P := fun l => (valD (grpOf l) v).getD [] = (l.filter fun q => decide (q.2 = some v)).map (·.1)) rfl (fun l q ih => ?_) l
  rw [grpOf_snoc, List.filter_append, List.map_append, ← ih]
  cases e : q.2 with
  | none => simp [e]
  | some u =>
    show (valD (addG (grpOf l) u q.1) v).getD [] = _
    unfold addG
    rw [putD_val]
    by_cases h : v = u
    · subst h; simp [e]
    · have h2 : ¬ u = v := fun z => h z.symm
      simp [e, h, h2]
theorem grp_mem {l : List (Str × Option Str)} {v : Str} {ids : List Str} (h : (v, ids) ∈ grpOf l) : ids = (l.filter fun q => decide (q.2 = some v)).map (·.1) := by
  have := gv_grp (l := l) v
  rw [valD_of (grp_small l).1 h] at this
  exact this
theorem grp_has {l : List (Str × Option Str)} {v a : Str} (h : (a, some v) ∈ l) : ∃ ids, (v, ids) ∈ grpOf l ∧ a ∈ ids := by
  have e := gv_grp (l := l) v
  have m : a ∈ (l.filter fun q => decide (q.2 = some v)).map (·.1) := List.mem_map.mpr ⟨_, List.mem_filter.mpr ⟨h, by simp⟩, rfl⟩
  cases z : valD (grpOf l) v with
  | none => rw [z] at e; rw [← e] at m; cases m
  | some ids => rw [z] at e; exact ⟨ids, valD_mem z, by rw [show ids = _ from e]; exact m⟩
theorem pairs_mem {l : List (Str × Option Str)} {x : List Str} : x ∈ pairsG (grpOf l) ↔ ∃ a b v, (a, some v) ∈ l ∧ (b, some v) ∈ l ∧ ltS a b ∧ x = [a, b] := by
  unfold pairsG
  rw [List.mem_flatMap]
  constructor
  · rintro ⟨⟨v, ids⟩, h1, h2⟩
    obtain ⟨a, ha, h2⟩ := List.mem_flatMap.mp h2
    obtain ⟨b, hb, rfl⟩ := List.mem_map.mp h2
    obtain ⟨hb, lt⟩ := List.mem_filter.mp hb
    have e := grp_mem h1
    have back : ∀ c ∈ ids, (c, some v) ∈ l := fun c hc => by
      rw [e] at hc
      obtain ⟨q, hq, rfl⟩ := List.mem_map.mp hc
      obtain ⟨h1, h2⟩ := List.mem_filter.mp hq
      have h2 := of_decide_eq_true h2
      rw [← h2]; exact h1
    exact ⟨a, b, v, back a ha, back b hb, of_decide_eq_true lt, rfl⟩
  · rintro ⟨a, b, v, ha, hb, lt, rfl⟩
    obtain ⟨ids, h1, h2⟩ := grp_has ha
    have e := grp_mem h1
    refine ⟨_, h1, List.mem_flatMap.mpr ⟨a, h2, List.mem_map.mpr ⟨b, List.mem_filter.mpr ⟨?_, decide_eq_true lt⟩, rfl⟩⟩⟩
    rw [e]
    exact List.mem_map.mpr ⟨_, List.mem_filter.mpr ⟨hb, by simp⟩, rfl⟩
theorem pairs_nd {l : List (Str × Option Str)} (nd : (l.map (·.1)).Nodup) : (pairsG (grpOf l)).Nodup := by
  unfold pairsG
  have idsN : ∀ z ∈ grpOf l, z.2.Nodup := fun z hz => by
    rw [grp_mem (v := z.1) (ids := z.2) hz]
    exact nd.sublist ((List.filter_sublist).map _)
  refine nodup_flat (fun z hz => nodup_flat (fun a ha => List.pairwise_map.mpr (((idsN z hz).filter _).imp fun h e => h (by simpa using e))) ((idsN z hz).imp fun {a b} h x hx hx' => ?_)) ((List.pairwise_map.mp (grp_small l).1).imp_of_mem fun {z z'} hz hz' h x hx hx' => ?_)
  · obtain ⟨c, _, rfl⟩ := List.mem_map.mp hx
    obtain ⟨c', _, e⟩ := List.mem_map.mp hx'
    simp only [List.cons.injEq] at e
    exact h e.1.symm
  · obtain ⟨a, ha, hx⟩ := List.mem_flatMap.mp hx
    obtain ⟨b, _, rfl⟩ := List.mem_map.mp hx
    obtain ⟨a', ha', hx'⟩ := List.mem_flatMap.mp hx'
    obtain ⟨b', _, e⟩ := List.mem_map.mp hx'
    simp only [List.cons.injEq] at e
    have e1 : a' = a := e.1
    subst e1
    rw [grp_mem (v := z.1) (ids := z.2) hz] at ha
    rw [grp_mem (v := z'.1) (ids := z'.2) hz'] at ha'
    obtain ⟨q, hq, e2⟩ := List.mem_map.mp ha
    obtain ⟨q', hq', e3⟩ := List.mem_map.mp ha'
    obtain ⟨h1, h2⟩ := List.mem_filter.mp hq
    obtain ⟨h3, h4⟩ := List.mem_filter.mp hq'
    have h5 := valD_of nd (k := q.1) (x := q.2) h1
    have h6 := valD_of nd (k := q'.1) (x := q'.2) h3
    rw [e3, ← e2, h5] at h6
    have h6 := Option.some.inj h6
    rw [of_decide_eq_true h2, of_decide_eq_true h4] at h6
    exact h (Option.some.inj h6)
def SpX (tb : Tbs) (R : Rws) : Rul → List Str → Prop
  | .uniq _ t f, x => ∃ a b v ra rb, (a, (t, ra)) ∈ R ∧ (b, (t, rb)) ∈ R ∧ (valD ra f).join = some v ∧ (valD rb f).join = some v ∧ ltS a b ∧ x = [a, b]
  | .some _ _ _, _ => False
  | .check _ t ts, x => ∃ a ra, (a, (t, ra)) ∈ R ∧ evTs ra ts = false ∧ x = [a]
  | .link _ t f ts th, x => ∃ a ra, (a, (t, ra)) ∈ R ∧ keptB tb R t f ts th ra = false ∧ x = [a, ((valD ra f).join).getD ""]
def Rul.notSome : Rul → Prop
  | .some .. => False
  | _ => True
theorem tgOf_mem {R : Rws} {t f a v : Str} : (a, some v) ∈ tgOf (srtD (tOf R t)) f ↔ ∃ ra, (a, (t, ra)) ∈ R ∧ (valD ra f).join = some v := by
  unfold tgOf
  rw [List.mem_map]
  constructor
  · rintro ⟨⟨b, rb⟩, h, e⟩
    simp only [Prod.mk.injEq] at e
    obtain ⟨rfl, e⟩ := e
    exact ⟨rb, tOf_mem.mp (srtD_mem.mp h), e⟩
  · rintro ⟨ra, h, e⟩
    exact ⟨(a, ra), srtD_mem.mpr (tOf_mem.mpr h), by simp only [e]⟩
theorem spots_mem {tb : Tbs} {R : Rws} {r : Rul} (hr : r.notSome) {x : List Str} : x ∈ spotsD tb R r ↔ SpX tb R r x := by
  cases r with
  | some n t ts => exact hr.elim
  | uniq n t f =>
    show x ∈ sortP _ ↔ _
    rw [(sortP_perm _).mem_iff, pairs_mem]
    constructor
    · rintro ⟨a, b, v, ha, hb, lt, rfl⟩
      obtain ⟨ra, h1, h2⟩ := tgOf_mem.mp ha
      obtain ⟨rb, h3, h4⟩ := tgOf_mem.mp hb
      exact ⟨a, b, v, ra, rb, h1, h3, h2, h4, lt, rfl⟩
    · rintro ⟨a, b, v, ra, rb, h1, h3, h2, h4, lt, rfl⟩
      exact ⟨a, b, v, tgOf_mem.mpr ⟨ra, h1, h2⟩, tgOf_mem.mpr ⟨rb, h3, h4⟩, lt, rfl⟩
  | check n t ts =>
    show x ∈ List.map _ _ ↔ _
    rw [List.mem_map]
    constructor
    · rintro ⟨⟨a, ra⟩, h, rfl⟩
      obtain ⟨h1, h2⟩ := List.mem_filter.mp h
      exact ⟨a, ra, tOf_mem.mp (srtD_mem.mp h1), by simpa using h2, rfl⟩
    · rintro ⟨a, ra, h1, h2, rfl⟩
      exact ⟨(a, ra), List.mem_filter.mpr ⟨srtD_mem.mpr (tOf_mem.mpr h1), by simpa using h2⟩, rfl⟩
  | link n t f ts th =>
    show x ∈ List.map _ _ ↔ _
    rw [List.mem_map]
    constructor
    · rintro ⟨⟨a, ra⟩, h, rfl⟩
      obtain ⟨h1, h2⟩ := List.mem_filter.mp h
      exact ⟨a, ra, tOf_mem.mp (srtD_mem.mp h1), by simpa using h2, rfl⟩
    · rintro ⟨a, ra, h1, h2, rfl⟩
      exact ⟨(a, ra), List.mem_filter.mpr ⟨srtD_mem.mpr (tOf_mem.mpr h1), by simpa using h2⟩, rfl⟩
theorem srt_strict {α : Type} {l : List (Str × α)} (nd : (l.map (·.1)).Nodup) : (srtD l).Pairwise fun a b => ltS a.1 b.1 := by
  have h2 : (srtD l).Pairwise fun a b => a.1 ≠ b.1 := List.pairwise_map.mp (srtD_nodup nd)
  refine List.Pairwise.imp₂ (fun a b h1 h2 => ?_) (srtD_pw l) h2
  have h1 : a.1.cps.toList ≤ b.1.cps.toList := of_decide_eq_true h1
  rcases Classical.em (a.1.cps.toList < b.1.cps.toList) with h | h
  · exact h
  · exact absurd (str_ext (List.le_antisymm h1 (List.not_lt.mp h))) h2
theorem leP_lt {a b : Str} {x y : List Str} (h : ltS a b) : leP (a :: x) (b :: y) = true := leP_iff.mpr (List.le_of_lt (List.cons_lt_cons_iff.mpr (.inl h)))
theorem spots_pw {tb : Tbs} {R : Rws} {r : Rul} (nd : (R.map (·.1)).Nodup) (hr : r.notSome) : (spotsD tb R r).Pairwise (fun a b => leP a b = true) ∧ (spotsD tb R r).Nodup := by
  have ndt : ∀ t, ((tOf R t).map (·.1)).Nodup := tOf_nodup nd
  have ne : ∀ {a b : Str} {x y : List Str}, ltS a b → a :: x ≠ b :: y := fun h e => by
    simp only [List.cons.injEq] at e
    rw [e.1] at h
    exact List.lt_irrefl _ h
  cases r with
  | some n t ts => exact hr.elim
  | uniq n t f =>
    refine ⟨sortP_pw _, (sortP_perm _).nodup_iff.mpr (pairs_nd ?_)⟩
    unfold tgOf
    rw [List.map_map]
    exact srtD_nodup (ndt t)
  | check n t ts => exact ⟨List.pairwise_map.mpr (((srt_strict (ndt t)).filter _).imp fun h => leP_lt h), List.pairwise_map.mpr (((srt_strict (ndt t)).filter _).imp fun h => ne h)⟩
  | link n t f ts th => exact ⟨List.pairwise_map.mpr (((srt_strict (ndt t)).filter _).imp fun h => leP_lt h), List.pairwise_map.mpr (((srt_strict (ndt t)).filter _).imp fun h => ne h)⟩
/-- a spot begins with an id -/
theorem spot_head {tb : Tbs} {R : Rws} {r : Rul} {x : List Str} (h : SpX tb R r x) : ∃ a y, x = a :: y ∧ a ∈ R.map (·.1) := by
  cases r with
  | some n t ts => exact h.elim
  | uniq n t f => obtain ⟨a, b, v, ra, rb, h1, _, _, _, _, rfl⟩ := h; exact ⟨a, _, rfl, List.mem_map.mpr ⟨_, h1, rfl⟩⟩
  | check n t ts => obtain ⟨a, ra, h1, _, rfl⟩ := h; exact ⟨a, _, rfl, List.mem_map.mpr ⟨_, h1, rfl⟩⟩
  | link n t f ts th => obtain ⟨a, ra, h1, _, rfl⟩ := h; exact ⟨a, _, rfl, List.mem_map.mpr ⟨_, h1, rfl⟩⟩
section
variable {tb : Tbs} {R : Rws} {gs : List (List Str)} {g : List Str}
/-- a linked row is near -/
theorem adj_link (oT : TbsOk tb) (oR : RwOk tb R) {a x t u f : Str} {ra rx : Row} {fs : Flds} (ha : (a, (t, ra)) ∈ R) (hx : (x, (u, rx)) ∈ R) (e1 : valD tb t = some fs) (e2 : valD fs f = some (.link u)) (ej : (valD ra f).join = some x) : Adj tb R a x := by
  obtain ⟨gs, e3, _⟩ := oR.ok _ hx
  refine .inl ((near_iff oT oR ha hx e1 e3).mp (.inl ?_))
  unfold lkL
  refine List.mem_map.mpr ⟨f, List.mem_filter.mpr ⟨(fLike_mem (oT.fs e1).1.nd).mpr ⟨_, e2, rfl⟩, ?_⟩, ej⟩
  rw [linkTo_eq e1 e2]
  exact decide_eq_true rfl
/-- a row of the same tag name is near -/
theorem adj_tag (oT : TbsOk tb) (oR : RwOk tb R) {a b t f v : Str} {ra rb : Row} {fs : Flds} (ha : (a, (t, ra)) ∈ R) (hb : (b, (t, rb)) ∈ R) (e1 : valD tb t = some fs) (e2 : valD fs f = some .tag) (ea : (valD ra f).join = some v) (eb : (valD rb f).join = some v) : Adj tb R a b := by
  have hf : f ∈ fLike fs "tag" := (fLike_mem (oT.fs e1).1.nd).mpr ⟨_, e2, rfl⟩
  refine .inl ((near_iff oT oR ha hb e1 e1).mp (.inr ?_))
  unfold shares
  refine List.any_eq_true.mpr ⟨f, hf, ?_⟩
  rw [eb]
  exact decide_eq_true (List.mem_filterMap.mpr ⟨f, hf, ea⟩)
theorem kept_sub (oT : TbsOk tb) (oR : RwOk tb R) {l : List Str} (ok : GrpOk tb R gs l) (hg : g ∈ gs) {a t f u : Str} {ts th : List Tst} {ra : Row} {fs : Flds} (ha : (a, (t, ra)) ∈ R) (hag : a ∈ g) (e1 : valD tb t = some fs) (e2 : valD fs f = some (.link u)) : keptB tb (subR R g) t f ts th ra = keptB tb R t f ts th ra := by
  unfold keptB
  cases ej : (valD ra f).join with
  | none => rfl
  | some x =>
    dsimp only
    rw [linkTo_eq e1 e2]
    have ndS := (ok.sub_ok oR hg).nd
    have : valD (tOf (subR R g) u) x = valD (tOf R u) x := by
      cases z : valD (tOf R u) x with
      | none =>
        rw [valD_none] at z ⊢
        intro w
        obtain ⟨r', h'⟩ := tOf_ids.mp w
        exact z (tOf_ids.mpr ⟨r', (subR_mem h').2⟩)
      | some rx =>
        have hx := tOf_mem.mp (valD_mem z)
        have xg := ok.shut hg hag (adj_link oT oR ha hx e1 e2 ej)
        exact valD_of (tOf_nodup ndS u) (tOf_mem.mpr ((sub_iff oR.nd).mpr ⟨xg, hx⟩))
    rw [this]
theorem spX_parts (oT : TbsOk tb) (oR : RwOk tb R) {l : List Str} (ok : GrpOk tb R gs l) (cov : ∀ i ∈ R.map (·.1), i ∈ l) {r : Rul} (okr : RulOk tb r) (x : List Str) : (∃ g ∈ gs, SpX tb (subR R g) r x) ↔ SpX tb R r x := by
  have nd := oR.nd
  have home : ∀ {q : Str × (Str × Row)}, q ∈ R → ∃ g ∈ gs, q.1 ∈ g := fun {q} hq => by
    obtain ⟨g, h1, h2⟩ := List.mem_flatten.mp (ok.cov _ (cov _ (List.mem_map.mpr ⟨q, hq, rfl⟩)))
    exact ⟨g, h1, h2⟩
  cases r with
  | some n t ts => exact ⟨fun ⟨_, _, h⟩ => h, fun h => h.elim⟩
  | uniq n t f =>
    obtain ⟨fs, e1, e2⟩ := okr
    constructor
    · rintro ⟨g, hg, a, b, v, ra, rb, h1, h2, h3⟩
      exact ⟨a, b, v, ra, rb, (subR_mem h1).2, (subR_mem h2).2, h3⟩
    · rintro ⟨a, b, v, ra, rb, h1, h2, h3, h4, h5⟩
      obtain ⟨g, hg, ag⟩ := home h1
      have bg := ok.shut hg ag (adj_tag oT oR h1 h2 e1 e2 h3 h4)
      exact ⟨g, hg, a, b, v, ra, rb, (sub_iff nd).mpr ⟨ag, h1⟩, (sub_iff nd).mpr ⟨bg, h2⟩, h3, h4, h5⟩
  | check n t ts =>
    constructor
    · rintro ⟨g, hg, a, ra, h1, h2⟩
      exact ⟨a, ra, (subR_mem h1).2, h2⟩
    · rintro ⟨a, ra, h1, h2⟩
      obtain ⟨g, hg, ag⟩ := home h1
      exact ⟨g, hg, a, ra, (sub_iff nd).mpr ⟨ag, h1⟩, h2⟩
  | link n t f ts th =>
    obtain ⟨fs, u, hs, e1, e2, e3, _⟩ := okr
    constructor
    · rintro ⟨g, hg, a, ra, h1, h2, h3⟩
      obtain ⟨ag, h1⟩ := subR_mem h1
      exact ⟨a, ra, h1, by rw [← kept_sub oT oR ok hg h1 ag e1 e2]; exact h2, h3⟩
    · rintro ⟨a, ra, h1, h2, h3⟩
      obtain ⟨g, hg, ag⟩ := home h1
      exact ⟨g, hg, a, ra, (sub_iff nd).mpr ⟨ag, h1⟩, by rw [kept_sub oT oR ok hg h1 ag e1 e2]; exact h2, h3⟩
/-- the parts' spots together are those of all -/
theorem spots_parts (oT : TbsOk tb) (oR : RwOk tb R) {r : Rul} (okr : RulOk tb r) (hr : r.notSome) : sortP ((groupsD tb R).flatMap fun g => spotsD tb (subR R g) r) = spotsD tb R r := by
  have nd := oR.nd
  have ok := groups_ok (tb := tb) nd
  obtain ⟨pw, ndB⟩ := spots_pw (tb := tb) nd hr
  refine (sortP_eq ?_ pw).symm
  refine (List.perm_ext_iff_of_nodup ndB (nodup_flat (fun g hg => (spots_pw (ok.sub_ok oR hg).nd hr).2) (ok.apart.imp_of_mem fun {g g'} hg hg' h x hx hx' => ?_))).mpr fun x => ?_
  · obtain ⟨a, y, rfl, ha⟩ := spot_head ((spots_mem hr).mp hx)
    obtain ⟨a', y', e, ha'⟩ := spot_head ((spots_mem hr).mp hx')
    simp only [List.cons.injEq] at e
    rw [← e.1] at ha'
    rw [subR_keys fun i hi => ok.inn hg hi] at ha
    rw [subR_keys fun i hi => ok.inn hg' hi] at ha'
    exact h a ha ha'
  · rw [spots_mem hr, List.mem_flatMap, ← spX_parts oT oR ok (fun i hi => idsS_mem.mpr hi) okr x]
    exact ⟨fun ⟨g, h1, h2⟩ => ⟨g, h1, (spots_mem hr).mpr h2⟩, fun ⟨g, h1, h2⟩ => ⟨g, h1, (spots_mem hr).mp h2⟩⟩
theorem some_iff {n t : Str} {ts : List Tst} {R : Rws} : (spotsD tb R (.some n t ts)).isEmpty = true ↔ ∃ a ra, (a, (t, ra)) ∈ R ∧ evTs ra ts = true := by
  show (if (srtD (tOf R t)).any (fun q => evTs q.2 ts) then ([] : List (List Str)) else [[]]).isEmpty = true ↔ _
  constructor
  · intro h
    split at h
    · rename_i z
      obtain ⟨⟨a, ra⟩, h1, h2⟩ := List.any_eq_true.mp z
      exact ⟨a, ra, tOf_mem.mp (srtD_mem.mp h1), h2⟩
    · cases h
  · rintro ⟨a, ra, h1, h2⟩
    rw [if_pos (List.any_eq_true.mpr ⟨(a, ra), srtD_mem.mpr (tOf_mem.mpr h1), h2⟩)]
    rfl
/-- a "some" rule holds if it does in one part -/
theorem some_parts (oR : RwOk tb R) {n t : Str} {ts : List Tst} : (groupsD tb R).any (fun g => (spotsD tb (subR R g) (.some n t ts)).isEmpty) = (spotsD tb R (.some n t ts)).isEmpty := by
  have nd := oR.nd
  have ok := groups_ok (tb := tb) nd
  rw [Bool.eq_iff_iff, List.any_eq_true, some_iff]
  constructor
  · rintro ⟨g, hg, h⟩
    obtain ⟨a, ra, h1, h2⟩ := some_iff.mp h
    exact ⟨a, ra, (subR_mem h1).2, h2⟩
  · rintro ⟨a, ra, h1, h2⟩
    obtain ⟨g, hg, ag⟩ := List.mem_flatten.mp (ok.cov a (idsS_mem.mpr (List.mem_map.mpr ⟨_, h1, rfl⟩)))
    exact ⟨g, hg, some_iff.mpr ⟨a, ra, (sub_iff nd).mpr ⟨ag, h1⟩, h2⟩⟩
/-- the parts' rows together are all rows -/
theorem parts_perm (nd : (R.map (·.1)).Nodup) : ((groupsD tb R).flatMap fun g => subR R g).Perm R := by
  have ok := groups_ok (tb := tb) nd
  have ndR : R.Nodup := (List.pairwise_map.mp nd).imp fun h e => h (by rw [e])
  refine (List.perm_ext_iff_of_nodup (nodup_flat (fun g hg => ?_) (ok.apart.imp fun h x hx hx' => h x.1 (subR_mem hx).1 (subR_mem hx').1)) ndR).mpr fun q => ?_
  · have := ok.gnd hg
    rw [← subR_keys (R := R) fun i hi => ok.inn hg hi] at this
    exact (List.pairwise_map.mp this).imp fun h e => h (by rw [e])
  · rw [List.mem_flatMap]
    constructor
    · rintro ⟨g, _, h⟩; exact (subR_mem h).2
    · intro h
      obtain ⟨g, hg, ag⟩ := List.mem_flatten.mp (ok.cov q.1 (idsS_mem.mpr (List.mem_map.mpr ⟨q, h, rfl⟩)))
      exact ⟨g, hg, (sub_iff nd).mpr ⟨ag, h⟩⟩
end
end K25

/-! F36 -/
namespace K25
open PySem PySem.Spec PyProof.Rows L2
/-! ### helpers of the law -/
theorem tstOk_c {fs : Flds} (nd : (fs.map (·.1)).Nodup) {t : Tst} (h : TstOk fs t) : TstOk (cfs fs) t := by
  induction t with
  | is f ws => obtain ⟨us, h1, h2, h3, h4⟩ := h; exact ⟨sortS us, by rw [cfs_val nd, h1]; rfl, h2, h3, fun x hx => sortS_mem.mpr (h4 x hx)⟩
  | non f => obtain ⟨g, h1, h2⟩ := h; exact ⟨cfld g, by rw [cfs_val nd, h1]; rfl, by rw [cfld_sort]; exact h2⟩
  | not t ih => exact ih h
theorem tsOk_c {fs : Flds} (nd : (fs.map (·.1)).Nodup) {ts : List Tst} (h : TsOk fs ts) : TsOk (cfs fs) ts := ⟨h.1, fun t ht => ⟨tstOk_c nd (h.2 t ht).1, (h.2 t ht).2⟩⟩
theorem rulOk_c {tb : Tbs} (og : TbsG tb) {r : Rul} (h : RulOk tb r) : RulOk (ctb tb) r := by
  have v : ∀ {t fs}, valD tb t = some fs → valD (ctb tb) t = some (cfs fs) := fun e => by rw [ctb_val og.nd, e]; rfl
  have n : ∀ {t fs}, valD tb t = some fs → (fs.map (·.1)).Nodup := fun e => (og.ok _ (valD_mem e)).nd
  cases r with
  | link n1 t f ts th =>
    obtain ⟨fs, u, gs, e1, e2, e3, o1, o2⟩ := h
    exact ⟨cfs fs, u, cfs gs, v e1, by rw [cfs_val (n e1), e2]; rfl, v e3, tsOk_c (n e1) o1, tsOk_c (n e3) o2⟩
  | uniq n1 t f =>
    obtain ⟨fs, e1, e2⟩ := h
    exact ⟨cfs fs, v e1, by rw [cfs_val (n e1), e2]; rfl⟩
  | some n1 t ts =>
    obtain ⟨fs, e1, o1⟩ := h
    exact ⟨cfs fs, v e1, tsOk_c (n e1) o1⟩
  | check n1 t ts =>
    obtain ⟨fs, e1, o1⟩ := h
    exact ⟨cfs fs, v e1, tsOk_c (n e1) o1⟩
theorem groups_len {tb : Tbs} {R : Rws} (oR : RwOk tb R) : (groupsD tb R).length ≤ 10 := Nat.le_trans (grpsL_len tb R (idsS R)) (idsS_len oR)
theorem sml_groups {tb : Tbs} {R : Rws} (oR : RwOk tb R) : Sml (groupsD tb R) := by
  have ok := groups_ok (tb := tb) oR.nd
  have l10 := oR.len
  refine ⟨Nat.le_trans (groups_len oR) (by decide), fun g hg => ?_, fun g hg x hx => ?_⟩
  · have := nodup_len (ok.gnd hg) fun x hx => ok.inn hg hx
    rw [List.length_map] at this
    omega
  · obtain ⟨q, hq, rfl⟩ := List.mem_map.mp (ok.inn hg hx)
    exact oR.nm q hq
theorem nm_val {fs : Flds} {r : Row} (oC : RowC fs r) {f x : Str} (h : (valD r f).join = some x) : Nm x := by
  cases z : valD r f with
  | none => rw [z] at h; cases h
  | some y =>
    rw [z] at h
    have h : y = some x := h
    obtain ⟨g, _, hg⟩ := oC.ok _ (valD_mem z)
    rw [h] at hg
    cases g with
    | mark ws => obtain ⟨s, e, _, hn⟩ := hg; cases e; exact hn
    | link u => exact hg x rfl
    | tag => exact hg x rfl
theorem sml_spots {tb : Tbs} {R : Rws} (oR : RwOk tb R) {r : Rul} (hr : r.notSome) : Sml (spotsD tb R r) ∧ ∀ x ∈ spotsD tb R r, x ≠ [] := by
  have l10 := oR.len
  have nmk : ∀ {a t ra}, (a, (t, ra)) ∈ R → Nm a := fun h => oR.nm _ h
  obtain ⟨_, ndS⟩ := spots_pw (tb := tb) oR.nd hr
  refine ⟨⟨?_, fun x hx => ?_, fun x hx s hs => ?_⟩, fun x hx e => ?_⟩
  · have ls : ∀ t, (srtD (tOf R t)).length ≤ 10 := fun t => by rw [srtD_len]; exact Nat.le_trans (tOf_len R t) l10
    cases r with
    | some n t ts => exact hr.elim
    | check n t ts =>
      show (List.map _ _).length ≤ 200
      rw [List.length_map]
      exact Nat.le_trans (Nat.le_trans (List.length_filter_le _ _) (ls t)) (by decide)
    | link n t f ts th =>
      show (List.map _ _).length ≤ 200
      rw [List.length_map]
      exact Nat.le_trans (Nat.le_trans (List.length_filter_le _ _) (ls t)) (by decide)
    | uniq n t f =>
      have := nodup_len (m := (R.map (·.1)).flatMap fun a => (R.map (·.1)).map fun b => [a, b]) ndS fun x hx => by
        obtain ⟨a, b, v, ra, rb, h1, h2, _, _, _, rfl⟩ := (spots_mem hr).mp hx
        exact List.mem_flatMap.mpr ⟨a, List.mem_map.mpr ⟨_, h1, rfl⟩, List.mem_map.mpr ⟨b, List.mem_map.mpr ⟨_, h2, rfl⟩, rfl⟩⟩
      have l2 : ((R.map (·.1)).flatMap fun a => (R.map (·.1)).map fun b => [a, b]).length ≤ 10 * (R.map (·.1)).length := by
        rw [List.length_flatMap]
        exact sum_le _ 10 _ fun a _ => by rw [List.length_map, List.length_map]; exact l10
      rw [List.length_map] at l2
      omega
  · have h := (spots_mem hr).mp hx
    cases r with
    | some n t ts => exact h.elim
    | uniq n t f => obtain ⟨a, b, v, ra, rb, _, _, _, _, _, rfl⟩ := h; simp
    | check n t ts => obtain ⟨a, ra, _, _, rfl⟩ := h; simp
    | link n t f ts th => obtain ⟨a, ra, _, _, rfl⟩ := h; simp
  · have h := (spots_mem hr).mp hx
    cases r with
    | some n t ts => exact h.elim
    | uniq n t f =>
      obtain ⟨a, b, v, ra, rb, h1, h2, _, _, _, rfl⟩ := h
      simp only [List.mem_cons, List.not_mem_nil, or_false] at hs
      rcases hs with rfl | rfl
      · exact nmk h1
      · exact nmk h2
    | check n t ts =>
      obtain ⟨a, ra, h1, _, rfl⟩ := h
      rw [List.mem_singleton.mp hs]; exact nmk h1
    | link n t f ts th =>
      obtain ⟨a, ra, h1, h2, rfl⟩ := h
      simp only [List.mem_cons, List.not_mem_nil, or_false] at hs
      rcases hs with rfl | rfl
      · exact nmk h1
      · cases e : (valD ra f).join with
        | none => unfold keptB at h2; rw [e] at h2; cases h2
        | some x =>
          obtain ⟨fs, _, oC⟩ := oR.ok _ h1
          exact nm_val oC e
  · obtain ⟨a, y, h, _⟩ := spot_head ((spots_mem hr).mp hx)
    rw [e] at h; cases h
theorem ent_eq {K : PySem.W.Frag} {G H : Hp} (s : Sub G H) {v : V} {t : Str} {r : Row} {p b : Addr} (h : EntV v (t, r) G) (h1 : G p = some (.tup [.str t, .ref b])) (h2 : G b = some (.dK (rowK r))) (nd : (r.map (·.1)).Nodup) : EqT K H 3 v (.ref p) := by
  obtain ⟨p', b', rfl, h3, h4⟩ := h
  refine .inr (.inr (.inr (.inl ⟨p', p, _, _, rfl, rfl, SqT.of (s.tup h3), SqT.of (s.tup h1), .cons (.inl ⟨rfl, rfl⟩) (.cons (.inr (.inr (.inr (.inr ⟨b', b, rowK r, rowK r, rfl, rfl, s.rd h4, s.rd h2, rfl, fun z hz => ?_⟩)))) .nil)⟩)))
  have ndk : ((rowK r).map (·.1)).Nodup := by
    unfold rowK
    rw [List.map_map]
    exact List.pairwise_map.mpr ((List.pairwise_map.mp nd).imp fun h e => h (Sum.inr.inj e))
  refine ⟨z.2, valV_of_nodup ndk hz, .inl ⟨rfl, ?_⟩⟩
  obtain ⟨q, _, rfl⟩ := List.mem_map.mp hz
  cases q.2 <;> rfl
/-- the whole against the law's rows: not different -/
theorem rv_whole {K : PySem.W.Frag} {G : Hp} {w d : Addr} {kvs : List (Key × V)} {tb : Tbs} {L R : Rws} {pa ra : Str → Addr} (hw : G w = some (.dK kvs)) (hp : PrD EntV G kvs L) (pm : L.Perm R) (hX : RowsX G G d R pa ra) (oR : RwOk tb R) (oT : TbsOk tb) : Rv (rNeT K) (.ref w) (.ref d) G (.bl false) := fun H s Q q =>
  ⟨3, w, d, kvs, _, by omega, rfl, rfl, s.rd hw, s.rd hX.dict, .inl ⟨by rw [hp.length, pm.length_eq, List.length_map], fun z hz => by
    obtain ⟨x, hx, e1, e2⟩ := All2.mem1 hp hz
    have xr := pm.mem_iff.mp hx
    obtain ⟨fs, e3, oC⟩ := oR.ok x xr
    rw [e1]
    exact ⟨_, vP_of oR.nd pa x xr, ent_eq s (t := x.2.1) (r := x.2.2) e2 (hX.tup x xr) (hX.row x xr) (by rw [oC.ks]; exact (oT.fs e3).1.nd)⟩, q H (Same.refl H)⟩⟩
section
variable {K : PySem.W.Frag} {σ : L2.St} {G H : Hp} {A : V → Prop} {te ta tb td : TE} {a : Addr} {kvs : List (Key × V)} {b : Bool} {Φ : V → Hp → Prop} {E : XK} {D : Ends} {rest : TS} {tr : TA} {sp : Sp} {vs : List V} {i : Nat}
theorem gv_neE (h : Gv td σ G (.ref a)) (ha : G a = some (.dK kvs)) : Gv (tOp (rNeT K) td tDNewK) σ G (.bl (!kvs.isEmpty)) := fun H s Q q =>
  h H s _ fun H1 e1 => fun p hp => by
    have e2 := e1.trans (Same.put (o := .dK []) hp)
    refine ⟨0, a, p, kvs, [], by omega, rfl, rfl, (s.same e2).rd ha, .inl upd_same, ?_⟩
    cases kvs with
    | nil => exact .inl ⟨rfl, fun q hq => (by cases hq), q _ e2⟩
    | cons z l => exact .inr ⟨by simp, q _ e2⟩
theorem gt_ge (h : Ge te σ G fun v _ => v = .bl b) : Gt (tTest te) σ G b := fun H s Q q => h H s trivial _ fun v G' H' st e => ⟨b, e, q H' st.keep⟩
theorem gt_geB (h : Ge te σ G fun v _ => v = .bl b) : Gt (tB te) σ G b := fun H s Q q => h H s trivial _ fun v G' H' st e => ⟨b, e, q H' st.keep⟩
theorem q_call (h : Ga tr σ G vs) (s : Sub G H) (hs : ∀ H', Same H H' → sp (vs ++ []) H' (fun v H'' => rest D (σ.set i (some v)) H'') E) : tSeq (tAsg (tCall sp [] E tr) (gName i)) rest D σ H := h H s _ fun H1 e1 => hs H1 e1
theorem sx_alike {x y : V} {l : List (List Str)} {tup : Bool} (hx : LtV tup x l G) (hy : LtV tup y l G) (sm : Sml l) : Sx spAlike [x, y] G fun v _ => v = .bl true := fun H s Q E q => ⟨x, y, G, rfl, s, .inr ⟨l, tup, hx, hy, sm⟩, fun H' e => q _ G H' ((Stp.refl s).grow e) rfl⟩
theorem sv_alikeB : Sv spAlike [.bl b, .bl b] G (.bl true) := fun H s Q E q => ⟨_, _, G, rfl, s, .inl ⟨b, rfl, rfl⟩, q⟩
theorem inV_true (bs : List Bool) : inV (.bl true) (bs.map V.bl) = bs.any id := by
  unfold inV
  induction bs with
  | nil => rfl
  | cons b bs ih => rw [List.map_cons, List.any_cons, List.any_cons, ih]; cases b <;> rfl
theorem flat_bls (bs : List Bool) : (bs.map V.bl).all flatV = true := by
  rw [List.all_eq_true]
  intro x hx
  obtain ⟨s, _, rfl⟩ := List.mem_map.mp hx
  rfl
end
/-! ### lists of lists, together -/
theorem tus_flat {G : Hp} {xs : List V} {ls : List (List (List Str))} (h : All2 (fun v l => TusV v l G) xs ls) : ∃ (qs : List Addr) (yss : List (List V)), xs = qs.map V.ref ∧ Paired (fun q ys => G q = some (.lst ys)) qs yss ∧ All2 (fun v x => TupA v x G) yss.flatten ls.flatten := by
  induction h with
  | nil => exact ⟨[], [], rfl, .nil, .nil⟩
  | cons r _ ih =>
    obtain ⟨p, vs, rfl, hp, al⟩ := r
    obtain ⟨qs, yss, rfl, h1, h2⟩ := ih
    exact ⟨p :: qs, vs :: yss, rfl, .cons hp h1, by rw [List.flatten_cons, List.flatten_cons]; exact all2_app al h2⟩
theorem Stp.telAny {G H H' : Hp} {p : Addr} {xs : List V} (s : Sub G H) (e : Same H H') (hn : H p = none) (h : H' p = some (.lst xs)) : Stp G H (upd G p (.lst xs)) H' := ((Stp.refl s).grow e).tell (s.non hn) hn h
section
variable {K : PySem.W.Frag} {σ : L2.St} {G : Hp} {te : TE} {Φ : V → Hp → Prop}
/-- sum(lists, []) -/
theorem ge_sum (h : Ge te σ G fun v G' => ∃ p xs ls, v = .ref p ∧ G' p = some (.lst xs) ∧ All2 (fun v l => TusV v l G') xs ls ∧ ls.flatten.length ≤ 100000 ∧ ∀ v2 G2, Same G' G2 → TusV v2 ls.flatten G2 → Φ v2 G2) : Ge (tCB (rSumL K) (tCons te (tCons (tLst tNil) tNil))) σ G Φ := fun H s c Q q =>
  h H s c _ fun v G1 H1 s1 f => by
    obtain ⟨p, xs, ls, rfl, hp, al, hl, k⟩ := f
    obtain ⟨qs, yss, rfl, hq, hf⟩ := tus_flat al
    refine ⟨by decide, fun b hb => ⟨p, b, qs, yss, rfl, SqL.of ((s1.sub.same (Same.put hb)).lst hp), upd_same, Paired.mapP hq fun a ys e => (s1.sub.same (Same.put hb)).lst e, by rw [hf.length, sizeLine_eq]; omega, fun r H' e hr hr' => ?_⟩⟩
    have hn : H1 r = none := by
      rcases hr with rfl | hr
      · exact hb
      · exact (Same.put hb).free hr
    have gr := s1.sub.non hn
    have st := Stp.telAny s1.sub ((Same.put hb).trans e) hn hr'
    exact q _ _ H' (s1.trans st) (k _ _ (Same.put gr) ⟨r, _, rfl, upd_same, hf.imp fun _ _ _ _ z => tup_mono _ _ _ _ (Same.put gr) z⟩)
end
/-! ### the views -/
section
variable {CT : Addr} {H0 G H G' H' : Hp} {a s d k : Addr} {tb : Tbs} {R : Rws} {ad pa ra : Str → Addr}
theorem LSt.stp (L : LSt CT H0 G H a s d tb R k ad pa ra) (st : Stp G H G' H') : LSt CT H0 G' H' a s d tb R k ad pa ra :=
  ⟨L.tab.mut (M := []) (fun _ _ => by simp) (by rw [wo_nil]; exact st), L.ado.mut (M := []) L.tab (fun _ _ => by simp) (by rw [wo_nil]; exact st), ⟨st.keep _ _ L.rws.dict, fun q hq => st.ex _ _ (L.rws.tup q hq), fun q hq => st.keep _ _ (L.rws.row q hq)⟩,
    ⟨L.rwo.d0, st.new _ L.rwo.dg (by rw [L.rws.dict]; simp), L.rwo.r0, fun i hi => by
      obtain ⟨q, hq, rfl⟩ := List.mem_map.mp hi
      exact st.new _ (L.rwo.rg _ hi) (by rw [L.rws.row q hq]; simp), L.rwo.inj, L.rwo.ne⟩, L.nad, L.nar, L.ok⟩
theorem LSt.mem (L : LSt CT H0 G H a s d tb R k ad pa ra) {m : Addr} (hm : m ∈ LM d tb R ad ra) : H0 m = none ∧ G m = none ∧ H m ≠ none ∧ ∀ ob u, H m ≠ some (.frz ob u) := by
  rcases LM.cases hm with rfl | ⟨i, hi, rfl⟩ | ⟨t, ht, rfl⟩
  · exact ⟨L.rwo.d0, L.rwo.dg, by rw [L.rws.dict]; simp, fun ob u => by rw [L.rws.dict]; simp⟩
  · obtain ⟨q, hq, rfl⟩ := List.mem_map.mp hi
    exact ⟨L.rwo.r0 _ hi, L.rwo.rg _ hi, by rw [L.rws.row q hq]; simp, fun ob u => by rw [L.rws.row q hq]; simp⟩
  · obtain ⟨kvs, e, _⟩ := L.tab.inn t ht
    exact ⟨L.ado.h0 t ht, L.ado.g t ht, by rw [e]; simp, fun ob u => by rw [e]; simp⟩
theorem LSt.same (L : LSt CT H0 G H a s d tb R k ad pa ra) : Same G (tel G H (LM d tb R ad ra)) := tel_same fun m hm => (L.mem hm).2.1
theorem LSt.tabT (L : LSt CT H0 G H a s d tb R k ad pa ra) : TabX CT (tel G H (LM d tb R ad ra)) (tel G H (LM d tb R ad ra)) a s (ctb tb) R k ad := L.tab.mono L.same fun t ht o e => by rw [tel_in (LM.a_mem ht)]; exact e
theorem LSt.rwsT (L : LSt CT H0 G H a s d tb R k ad pa ra) : RowsX (tel G H (LM d tb R ad ra)) (tel G H (LM d tb R ad ra)) d R pa ra :=
  ⟨by rw [tel_in LM.d_mem]; exact L.rws.dict, fun q hq => L.same _ _ (L.rws.tup q hq), fun q hq => by rw [tel_in (LM.r_mem (List.mem_map.mpr ⟨q, hq, rfl⟩))]; exact L.rws.row q hq⟩
end
/-- the parts, told -/
structure PV (CS CT s : Addr) (V : Hp) (tb : Tbs) (rs : List Rul) (R : Rws) (fp : Addr) (zs : List (Pt × List Str)) : Prop where
  lst : V fp = some (.lst (zs.map fun z => L2.V.ref z.1.a))
  gs : zs.map (·.2) = groupsD tb R
  tab : ∀ z ∈ zs, TabX CT V V z.1.a s tb (subR R z.2) z.1.k z.1.ad
  sch : SchAt CS V s tb rs
theorem PV.mono {CS CT s : Addr} {V V' : Hp} {tb : Tbs} {rs : List Rul} {R : Rws} {fp : Addr} {zs : List (Pt × List Str)} (h : PV CS CT s V tb rs R fp zs) (e : Same V V') : PV CS CT s V' tb rs R fp zs :=
  ⟨e _ _ h.lst, h.gs, fun z hz => (h.tab z hz).mono e fun _ _ _ h => e _ _ h, h.sch.mono e⟩
section
variable {CS CT s : Addr} {V : Hp} {tb : Tbs} {rs : List Rul} {R : Rws} {fp : Addr} {zs : List (Pt × List Str)}
theorem PV.grp (h : PV CS CT s V tb rs R fp zs) {z : Pt × List Str} (hz : z ∈ zs) : z.2 ∈ groupsD tb R := by rw [← h.gs]; exact List.mem_map.mpr ⟨z, hz, rfl⟩
theorem PV.ok (h : PV CS CT s V tb rs R fp zs) (oR : RwOk tb R) {z : Pt × List Str} (hz : z ∈ zs) : RwOk tb (subR R z.2) := (groups_ok (tb := tb) oR.nd).sub_ok oR (h.grp hz)
theorem PV.len (h : PV CS CT s V tb rs R fp zs) (oR : RwOk tb R) : zs.length ≤ 10 := by
  have := congrArg List.length h.gs
  rw [List.length_map] at this
  rw [this]; exact groups_len oR
end
theorem LSt.grow {CT : Addr} {H0 G H H' : Hp} {a s d k : Addr} {tb : Tbs} {R : Rws} {ad pa ra : Str → Addr} (L : LSt CT H0 G H a s d tb R k ad pa ra) (e : Same H H') : LSt CT H0 G H' a s d tb R k ad pa ra :=
  ⟨L.tab.grow e, L.ado, ⟨e _ _ L.rws.dict, L.rws.tup, fun q hq => e _ _ (L.rws.row q hq)⟩, L.rwo, L.nad, L.nar, L.ok⟩
theorem rows_step {H0 G H G' H' : Hp} {d : Addr} {R : Rws} {pa ra : Str → Addr} (hX : RowsX G H d R pa ra) (hO : RowsO H0 G d (R.map (·.1)) ra) (st : Stp G H G' H') : RowsX G' H' d R pa ra ∧ RowsO H0 G' d (R.map (·.1)) ra :=
  ⟨⟨st.keep _ _ hX.dict, fun q hq => st.ex _ _ (hX.tup q hq), fun q hq => st.keep _ _ (hX.row q hq)⟩, ⟨hO.d0, st.new _ hO.dg (by rw [hX.dict]; simp), hO.r0, fun i hi => by
    obtain ⟨q, hq, rfl⟩ := List.mem_map.mp hi
    exact st.new _ (hO.rg _ hi) (by rw [hX.row q hq]; simp), hO.inj, hO.ne⟩⟩
theorem parts_view {CS CT s fp : Addr} {H0 G H : Hp} {tb : Tbs} {rs : List Rul} {R : Rws} {pts : List Pt} (ofp : Own H0 G fp H (.lst (pts.map fun q : Pt => V.ref q.a))) (al : All2 (PtAt CT H0 G H s tb R) pts (groupsD tb R)) (hS : SchAt CS G s tb rs) :
    ∃ M2 zs, (∀ m ∈ M2, H0 m = none ∧ G m = none ∧ H m ≠ none) ∧ PV CS CT s (tel G H M2) tb rs R fp zs ∧ (∀ z ∈ zs, PtAt CT H0 G H s tb R z.1 z.2) ∧ pts.map (fun q : Pt => V.ref q.a) = zs.map (fun z => V.ref z.1.a) := by
  obtain ⟨z1, z2, z3⟩ := al.zip
  generalize hzs : pts.zip (groupsD tb R) = zs at *
  have ep : pts.map (fun q : Pt => V.ref q.a) = zs.map (fun z => V.ref z.1.a) := by rw [z1, List.map_map]; rfl
  obtain ⟨M2, hM⟩ : ∃ M2, M2 = fp :: zs.flatMap fun z => (tb.map (·.1)).map z.1.ad := ⟨_, rfl⟩
  have fM : fp ∈ M2 := by rw [hM]; exact List.mem_cons_self
  have aM : ∀ z ∈ zs, ∀ t ∈ tb.map (·.1), z.1.ad t ∈ M2 := fun z hz t ht => by rw [hM]; exact List.mem_cons_of_mem _ (List.mem_flatMap.mpr ⟨z, hz, List.mem_map.mpr ⟨t, ht, rfl⟩⟩)
  have Mc : ∀ m ∈ M2, H0 m = none ∧ G m = none ∧ H m ≠ none := fun m hm => by
    rw [hM] at hm
    rcases List.mem_cons.mp hm with rfl | hm
    · exact ⟨ofp.h0, ofp.g, by rw [ofp.at_]; simp⟩
    · obtain ⟨z, hz, hm⟩ := List.mem_flatMap.mp hm
      obtain ⟨t, ht, rfl⟩ := List.mem_map.mp hm
      obtain ⟨h1, h2⟩ := z3 z hz
      obtain ⟨kvs, e, _⟩ := h1.inn t ht
      exact ⟨h2.h0 t ht, h2.g t ht, by rw [e]; simp⟩
  have eT : Same G (tel G H M2) := tel_same fun m hm => (Mc m hm).2.1
  exact ⟨M2, zs, Mc, ⟨by rw [tel_in fM, ofp.at_, ep], z2.symm, fun z hz => (z3 z hz).1.mono eT fun t ht o e => by rw [tel_in (aM z hz t ht)]; exact e, hS.mono eT⟩, z3, ep⟩
theorem cut_one {α : Type} (f : α → V) (xs : List α) : cutV (xs.map f) none (some 1) = (xs.take 1).map f := by
  cases xs with
  | nil => rfl
  | cons x xs =>
    unfold cutV
    have e2 : HT.sIx ((x :: xs).map f).length ((x :: xs).map f).length (some 1) = 1 := by
      rw [List.length_map, List.length_cons]
      unfold HT.sIx
      simp
      try omega
    rw [e2, show HT.sIx ((x :: xs).map f).length 0 none = 0 from rfl]
    rfl
section
variable {P : Program} {w : World} {K : PySem.W.Frag} {mg : Str → Option Value} {base : Heap}
/-- groups(..), the rows one's own -/
theorem groups_call {H0 G H : Hp} {p dt l d : Addr} {tb : Tbs} {R : Rws} {pa ra : Str → Addr} {Q : VK} {E : XK} (sG : Sub G H) (hp : G p = some (.tup [.ref dt, .ref l])) (ht : TbsAt G dt tb) (og : TbsG tb) (hX : RowsX G H d R pa ra) (hO : RowsO H0 G d (R.map (·.1)) ra) (oR : RwOk (ctb tb) R)
    (k : ∀ f G' H', Stp G H G' H' → LtV false (.ref f) (groupsD (ctb tb) R) G' → Q (.ref f) H') : spGroups [.ref p, .ref d] H Q E := by
  obtain ⟨M, hM⟩ : ∃ M, M = d :: (R.map (·.1)).map ra := ⟨_, rfl⟩
  have dM : d ∈ M := by rw [hM]; exact List.mem_cons_self
  have rM : ∀ i ∈ R.map (·.1), ra i ∈ M := fun i hi => by rw [hM]; exact List.mem_cons_of_mem _ (List.mem_map.mpr ⟨i, hi, rfl⟩)
  have Mc : ∀ m ∈ M, G m = none ∧ H m ≠ none := fun m hm => by
    rw [hM] at hm
    rcases List.mem_cons.mp hm with rfl | hm
    · exact ⟨hO.dg, by rw [hX.dict]; simp⟩
    · obtain ⟨i, hi, rfl⟩ := List.mem_map.mp hm
      obtain ⟨q, hq, rfl⟩ := List.mem_map.mp hi
      exact ⟨hO.rg _ hi, by rw [hX.row q hq]; simp⟩
  have gM : ∀ m ∈ M, G m = none := fun m hm => (Mc m hm).1
  have eT : Same G (tel G H M) := tel_same gM
  refine ⟨p, dt, l, d, tb, R, pa, ra, tel G H M, rfl, tel_sub sG, eT _ _ hp, ht.mono fs_mono eT, og, ⟨by rw [tel_in dM]; exact hX.dict, fun q hq => eT _ _ (hX.tup q hq), fun q hq => by rw [tel_in (rM _ (List.mem_map.mpr ⟨q, hq, rfl⟩))]; exact hX.row q hq⟩, oR, fun f ps G' H' st hf hfl hgs => ?_⟩
  have outM : ∀ {c}, H c = none → c ∉ M := fun h z => (Mc _ z).2 h
  refine k f (wo M G') H' (st.untel gM) ⟨f, ps.map V.ref, rfl, by rw [wo_out (outM hf)]; exact hfl, ?_⟩
  clear hfl k
  unfold GrsAt at hgs
  generalize groupsD (ctb tb) R = gs at hgs ⊢
  induction hgs with
  | nil => exact .nil
  | cons r _ ih => exact .cons ⟨_, rfl, by rw [wo_out (outM r.1)]; exact r.2⟩ ih
end
end K25

/-! F37 -/
set_option maxHeartbeats 8000000
namespace K25
open PySem PySem.Spec PyProof.Rows L2
section
variable {K : PySem.W.Frag} {σ : L2.St} {G H : Hp} {ta tb te : TE} {y : V} {b : Bool} {Ψ : V → Hp → Prop} {r : R2}
theorem gt_opX (ha : Ge ta σ G Ψ) (hb : ∀ v G', Same G G' → Ψ v G' → Gv tb σ G' y ∧ Rv r v y G' (.bl b)) : Gt (tTest (tOp r ta tb)) σ G b := gt_ge fun H s _ Q q => ha H s trivial _ fun v G1 H1 st f => (hb v G1 st.ex f).1 H1 st.sub _ fun H2 e2 => (hb v G1 st.ex f).2 H2 (st.sub.same e2) _ fun H3 e3 => q _ G1 H3 (st.grow (e2.trans e3)) rfl
end
theorem q_parCC {σ : L2.St} {G H : Hp} {D : Ends} {rest : TS} {i j : Nat} {sp1 sp2 : Sp} {tr1 tr2 : TA} {E1 E2 : XK} {vs1 : List V} (h1 : Ga tr1 σ G vs1) (s : Sub G H) (hs : ∀ H', Same H H' → sp1 (vs1 ++ []) H' (fun v H1 => tr2 σ H1 fun vs2 H2 => sp2 (vs2 ++ []) H2 (fun w H3 => rest D ((σ.set i (some v)).set j (some w)) H3) E2) E1) : tSeq (tPar i j (tCons (tCall sp1 [] E1 tr1) (tCons (tCall sp2 [] E2 tr2) tNil))) rest D σ H := h1 H s _ fun H1 e1 => by
  have h := hs H1 e1
  have e : (fun v H1 => tr2 σ H1 fun vs2 H2 => sp2 (vs2 ++ []) H2 (fun w H3 => rest D ((σ.set i (some v)).set j (some w)) H3) E2) = fun v H1 => tr2 σ H1 fun vs2 H2 => sp2 (vs2 ++ []) H2 (fun w H3 => ∃ v' w', [v, w] = [v', w'] ∧ rest D ((σ.set i (some v')).set j (some w')) H3) E2 := by
    funext v H1
    congr 1
    funext vs2 H2
    congr 1
    funext w H3
    exact propext ⟨fun z => ⟨v, w, rfl, z⟩, fun ⟨v', w', e, z⟩ => by cases e; exact z⟩
  rw [e] at h
  exact h
theorem s_call {σ : L2.St} {G H : Hp} {D : Ends} {i : Nat} {sp : Sp} {tr : TA} {E : XK} {vs : List V} (h : Ga tr σ G vs) (s : Sub G H) (hs : ∀ H', Same H H' → sp (vs ++ []) H' (fun v H'' => D.nx (σ.set i (some v)) H'') E) : tAsg (tCall sp [] E tr) (gName i) D σ H := h H s _ fun H1 e1 => hs H1 e1
theorem rv_neOwn {G : Hp} {CS sc : Addr} {tb : Tbs} {rs : List Rul} (hS : SchAt CS G sc tb rs) (oT : TbsOk tb) : Rv (rNeOwn CS (spSEq CS)) (.ref sc) (.ref sc) G (.bl false) := fun H s Q q => by
  obtain ⟨dx, d, l, h1, h2, h3⟩ := id hS
  exact ⟨sc, sc, dx, dx, _, _, rfl, rfl, s.ins h1, s.ins h1, ⟨sc, tb, rs, G, rfl, s, hS, oT, fun H' e => ⟨true, rfl, q H' e⟩⟩⟩
theorem stp0 (H : Hp) : Stp (fun _ => none) H (fun _ => none) H := Stp.refl fun _ _ z => nomatch z
section
variable {P : Program} {w : World} {K : PySem.W.Frag} {mg : Str → Option Value} {base : Heap}
def spLaw (K : PySem.W.Frag) : Sp := fun vs H Q _ => ∃ (a : Addr) (ns : List Int), vs = [.ref a] ∧ SqL K H a (ns.map V.int) ∧ ns.length ≤ 63 ∧ ∀ H', Q (.bl true) H'
abbrev N_law : List Str := ["_law_script", "_law_bag_here", "_law_turn", "_law_parts_here", "_law_rows_here", "_law_schema", "_law_tables_here", "_law_due", "_law_again", "_law_found", "_law_one", "_law_whole", "_law_rule", "_law_good", "_law_told", "_law_ident"]
theorem sc_law : FnScope N_law ["_law_script"] (defScope s_law) := ⟨rfl, rfl, rfl, by decide +kernel, rfl, by decide +kernel, by decide +kernel⟩
-- slots: 0 _law_script, 1 _law_bag_here, 2 _law_turn, 3 _law_parts_here, 4 _law_rows_here, 5 _law_schema*, 6 _law_tables_here, 7 _law_due, 8 _law_again, 9 _law_found, 10 _law_one, 11 _law_whole, 12 _law_rule*, 13 _law_good, 14 _law_told, 15 _law_ident
theorem fn_law (T : Tx K mg) : FnG P w K mg base 11 (He.fAd K d_law.at_) (fdA K (He.fAd K d_law.at_)) ["_law_script"] (spLaw K) := by
  refine fn_bodyG T.f_law sc_law (fun vs H Q E h => by obtain ⟨_, _, rfl, _⟩ := h; rfl) (fun cdv A outer s H vs Q E hg hr h => ?_)
  obtain ⟨a, ns, rfl, hS, hl, k⟩ := h
  have hu := hu_of hr
  refine ⟨_,
    (pss_cons (ps_set (i := 1) sc_law.nd rfl (Or.inl rfl) (pe_cal (c_w_bag T) hr (by decide) rfl (pa_cons (pv 0) pa_nil)))
    (pss_cons (ps_for PassesOwn.never rfl (pi_range1 rfl T.b_range (pa_cons pe_int pa_nil)) (pg_name (i := 2) sc_law.nd rfl (Or.inl rfl))
      (pss_cons (ps_set (i := 3) sc_law.nd rfl (Or.inl rfl) (pe_cal (c_w_parts T) hr (by decide) rfl (pa_cons (pv 1) (pa_cons pe_int (pa_cons pe_int (pa_cons pe_int pa_nil))))))
      (pss_cons (ps_set (i := 4) sc_law.nd rfl (Or.inl rfl) (pe_cal (c_w_rows T) hr (by decide) rfl (pa_cons (pv 1) (pa_cons (pe_ix (ix_tupK rfl) (pv 3) pe_int (fun _ _ => rfl)) (pa_cons pe_int (pa_cons pe_int pa_nil))))))
      (pss_cons (ps_set (i := 5) sc_law.nd rfl (Or.inr rfl) (pe_mak (k_Schema T) hr (by decide) rfl (pa_cons (pe_ix (ix_tupK rfl) (pv 3) pe_int (fun _ _ => rfl)) (pa_cons (pe_ix (ix_tupK rfl) (pv 3) pe_int (fun _ _ => rfl)) pa_nil))))
      (pss_cons (ps_par (i := 6) (j := 7) (by rfl) sc_law.nd rfl rfl (by decide) rfl rfl (pa_cons (pe_cal (c_w_tables T) hr (by decide) rfl (pa_cons (pv 5) (pa_cons (pv 4) pa_nil))) (pa_cons (pe_cal (c_w_groups T) hr (by decide) rfl (pa_cons (pv 3) (pa_cons (pv 4) pa_nil))) pa_nil)) (by rfl))
      (pss_one (ps_for PassesOwn.never rfl (pi_range1 rfl T.b_range (pa_cons pe_int pa_nil)) (pg_name (i := 8) sc_law.nd rfl (Or.inl rfl))
        (pss_cons (ps_if (PW.pt (pw_and (pt_cmpR op_eq (pv 8) pe_int (nomark _)) (pw_and1 (pt_cmpR (op_neTK rfl hr.units) (pv 4) pe_dnewK (nomark _)))))
          (pss_one (ps_set (i := 7) sc_law.nd rfl (Or.inl rfl) (pe_cal (c_w_changed T) hr (by decide) rfl (pa_cons (pv 1) (pa_cons (pv 3) (pa_cons (pv 6) (pa_cons (pv 4) pa_nil)))))))
          pss_nil)
        (pss_cons (ps_set (i := 9) sc_law.nd rfl (Or.inl rfl) (pe_cal (c_apart T) hr (by decide) rfl (pa_cons (pv 6) pa_nil)))
        (pss_cons (ps_if (PW.pt (pw_or (pt_not (pt_val (pe_callB (call_isiK rfl) (by rfl) T.b_isinstance (by decide +kernel) (pa_cons (pv 9) (pa_cons (pe_bltn (v := .ty "list") (by rfl) T.b_list (by decide +kernel) rfl) pa_nil))))) (pw_or1 (pt_not (pt_val (pe_calG (c_w_alike T) hg hr (by decide) rfl (pa_cons (pe_lc rfl sc_law.nd (pi_listK rfl (pv 9)) (blkOk_by (own := [("_law_one", 10)]) (N := N_law) (sc := defScope s_law) (by decide +kernel)) (fun _ _ _ _ _ => (pg_name (i := 10) sc_law.nd rfl (Or.inl rfl))) (fun _ _ _ _ _ => pts_nil) (fun _ _ _ _ _ => (pe_met0 (c_Tables_ids T) hr (by decide) (pv 10)))) (pa_cons (pv 7) pa_nil))))))))
          (pss_one (ps_ret pe_bl))
          pss_nil)
        (pss_cons (ps_set (i := 11) sc_law.nd rfl (Or.inl rfl) pe_dnewK)
        (pss_cons (ps_for PassesOwn.never rfl (pi_listK rfl (pv 9)) (pg_name (i := 10) sc_law.nd rfl (Or.inl rfl))
          (pss_one (ps_expr (pe_dupd (pv 11) (pe_cal (c_w_rows_of T) hr (by decide) rfl (pa_cons (pv 10) pa_nil)) ⟨rfl, by rfl, by rfl, by rfl⟩))))
        (pss_cons (ps_if (PW.pt (pw_or (pt_cmpR (op_neTK rfl hr.units) (pv 11) (pv 4) (nomark _)) (pw_or1 (pt_cmpR (op_neNilK rfl hr.units) (pe_lc rfl sc_law.nd (pi_listK rfl (pv 9)) (blkOk_by (own := [("_law_one", 10)]) (N := N_law) (sc := defScope s_law) (by decide +kernel)) (fun _ _ _ _ _ => (pg_name (i := 10) sc_law.nd rfl (Or.inl rfl))) (fun _ _ _ _ _ => (pts_one (pt_cmpR (op_neOwn (c_Schema_eq T) hr (by decide) T.ne_Schema T.mro_Schema) (pe_propR (c_Tables_schema T) hr (by decide) (pv 10) rfl) (pv 5) (nomark _)))) (fun _ _ _ _ _ => (pv 10))) (pe_lst pa_nil) (nomark _)))))
          (pss_one (ps_ret pe_bl))
          pss_nil)
        (pss_cons (ps_for PassesOwn.never rfl (pi_listK rfl (pe_ix (ix_tupK rfl) (pv 3) pe_int (fun _ _ => rfl))) (pg_name (i := 12) sc_law.nd rfl (Or.inr rfl))
          (pss_one (ps_if (pt_cmpR op_eq (pe_ix (ix_tupK rfl) (pv 12) pe_int (fun _ _ => rfl)) pe_str (nomark _))
            (pss_cons (ps_set (i := 13) sc_law.nd rfl (Or.inl rfl) (pe_cmpR (op_in_seqK rfl) pe_bl (pe_lc rfl sc_law.nd (pi_listK rfl (pv 9)) (blkOk_by (own := [("_law_one", 10)]) (N := N_law) (sc := defScope s_law) (by decide +kernel)) (fun _ _ _ _ _ => (pg_name (i := 10) sc_law.nd rfl (Or.inl rfl))) (fun _ _ _ _ _ => pts_nil) (fun _ _ _ _ _ => (pe_cal (c_holds T) hr (by decide) rfl (pa_cons (pv 10) (pa_cons (pe_ix (ix_tupK rfl) (pv 12) pe_int (fun _ _ => rfl)) pa_nil))))) (by rfl)))
            (pss_one (ps_if (pt_not (pt_val (pe_calG (c_w_alike T) hg hr (by decide) rfl (pa_cons (pe_cal (c_holds T) hr (by decide) rfl (pa_cons (pv 6) (pa_cons (pe_ix (ix_tupK rfl) (pv 12) pe_int (fun _ _ => rfl)) pa_nil))) (pa_cons (pv 13) pa_nil)))))
              (pss_one (ps_ret pe_bl))
              pss_nil)))
            (pss_cons (ps_set (i := 14) sc_law.nd rfl (Or.inl rfl) (pe_callB (cr_sumLK rfl rfl) (by rfl) T.b_sum (by decide +kernel) (pa_cons (pe_lc rfl sc_law.nd (pi_listK rfl (pv 9)) (blkOk_by (own := [("_law_one", 10)]) (N := N_law) (sc := defScope s_law) (by decide +kernel)) (fun _ _ _ _ _ => (pg_name (i := 10) sc_law.nd rfl (Or.inl rfl))) (fun _ _ _ _ _ => pts_nil) (fun _ _ _ _ _ => (pe_cal (c_spots T) hr (by decide) rfl (pa_cons (pv 10) (pa_cons (pe_ix (ix_tupK rfl) (pv 12) pe_int (fun _ _ => rfl)) pa_nil))))) (pa_cons (pe_lst pa_nil) pa_nil))))
            (pss_one (ps_if (pt_not (pt_val (pe_calG (c_w_alike T) hg hr (by decide) rfl (pa_cons (pe_callB (cr_sortedUK rfl) (by rfl) T.b_sorted (by decide +kernel) (pa_cons (pv 14) pa_nil)) (pa_cons (pe_cal (c_spots T) hr (by decide) rfl (pa_cons (pv 6) (pa_cons (pe_ix (ix_tupK rfl) (pv 12) pe_int (fun _ _ => rfl)) pa_nil))) pa_nil)))))
              (pss_one (ps_ret pe_bl))
              pss_nil))))))
        (pss_cons (ps_for PassesOwn.never rfl (pi_listK rfl (pe_slice (sl_listK rfl) (pv 9) po_none (po_some pe_int))) (pg_name (i := 10) sc_law.nd rfl (Or.inl rfl))
          (pss_cons (ps_set (i := 15) sc_law.nd rfl (Or.inl rfl) (pe_ix (ix_listK rfl) (pe_met0 (c_Tables_ids T) hr (by decide) (pv 10)) pe_int (fun _ _ => rfl)))
          (pss_one (ps_expr (pe_met (c_Tables_drop T) hr (by decide) (pv 10) (pa_cons (pe_met (c_Tables_table_of T) hr (by decide) (pv 10) (pa_cons (pv 15) pa_nil)) (pa_cons (pv 15) pa_nil)))))))
        (pss_cons (ps_if (pt_cmpR (op_neTK rfl hr.units) (pe_cal (c_w_rows_of T) hr (by decide) rfl (pa_cons (pv 6) pa_nil)) (pv 4) (nomark _))
          (pss_one (ps_ret pe_bl))
          pss_nil)
        (pss_one (ps_expr (pe_bmK rfl PySem.F.plainAttrs_list PySem.F.slot_list_append PySem.F.type_list_append mt_append (pv 9) (pa_cons pe_non pa_nil))))))))))))))))))))
    (pss_one (ps_ret pe_bl)))), ?_⟩
  refine ⟨_, rfl, a, ns, rfl, hS, hl, fun l H1 cs e1 hl0 hl1 l63 b hb => ?_⟩
  have nlb : l ≠ b := fun z => by rw [← z, hl1] at hb; cases hb
  have st2 : Stp (fun _ => none) H (upd (upd (fun _ => none) l (.lst (cs.map V.int))) b (BagO b l)) (upd H1 b (BagO b l)) := (((stp0 H).grow e1).tell rfl hl0 hl1).lay hb
  have hB : BagAt (upd (upd (fun _ => none) l (.lst (cs.map V.int))) b (BagO b l)) b := ⟨l, cs, upd_same, by rw [upd_ne nlb]; exact upd_same, l63⟩
  dsimp only
  generalize upd (upd (fun _ => none) l (.lst (cs.map V.int))) b (BagO b l) = G2 at st2 hB
  generalize upd H1 b (BagO b l) = H2 at st2 ⊢
  clear hl1 hl0 e1 hb nlb
  refine q_of (s_for (Pre := Fr0) (G0 := fun _ => none) (H0 := H) (ds := List.range 3) (up := upN 2 fun i => .int (i : Nat)) (Iv := fun (i : Nat) σ2 G5 H5 => ∃ v2 v3 v4 v5 v6 v7 v8 v9 v10 v11 v12 v13 v14 v15, σ2 = [some (.ref a), some (.ref b), v2, v3, v4, v5, v6, v7, v8, v9, v10, v11, v12, v13, v14, v15] ∧ Same G2 G5)
    st2 (gi_range1 (n := 3) gv_c (by omega)) trivial (by rintro _ _ _ _ _ e h; exact h) (fun G5 H5 s5 => ⟨_, _, _, _, _, _, _, _, _, _, _, _, _, _, rfl, s5.ex⟩) (fun G5 H5 s5 i dd hdd σ2 G6 H6 lp iv => ?_) fun G6 H6 σ2 lp iv => ?_)
  · obtain ⟨v2, v3, v4, v5, v6, v7, v8, v9, v10, v11, v12, v13, v14, v15, rfl, eG⟩ := iv
    have hB6 := hB.mono eG
    refine q_setX (Φ := fun v G' => ∃ p dt l tb rs, v = .ref p ∧ G' p = some (.tup [.ref dt, .ref l]) ∧ TbsAt G' dt tb ∧ RsAt G' l rs ∧ TbsG tb ∧ RsOk tb rs) lp.st.sub (ge_call (ga_cons (gv_var rfl) (ga_cons gv_c (ga_cons gv_c (ga_cons gv_c ga_nil)))) fun H sb Q E q => ⟨b, _, rfl, sb, hB6, fun p d l G' H' tb rs st h1 h2 h3 h4 h5 => q _ G' H' st ⟨p, d, l, tb, rs, rfl, h1, h2, h3, h4, h5⟩⟩) fun v G7 H7 s7 hv => ?_
    obtain ⟨p, dt, lr, tb, rs, rfl, hp, ht, hrs, og, okr⟩ := hv
    have lp7 := lp.step s7
    have hB7 := hB6.mono s7.ex
    refine q_call (ga_cons (gv_var rfl) (ga_cons (gv_op (gv_var rfl) gv_c (rv_ixT hp (at0 _ _))) (ga_cons gv_c (ga_cons gv_c ga_nil)))) lp7.st.sub fun H8 e8 => ⟨b, dt, tb, G7, rfl, lp7.st.sub.same e8, hB7, ht, og, fun d G9 H9 R pa ra s9 hX hO oR => ?_⟩
    have lp8 := lp7.grow e8
    have lp9 := lp8.step s9
    have k8 := lp8.st.keep
    have hO : RowsO H G9 d (R.map (·.1)) ra := ⟨k8.free hO.d0, hO.dg, fun i hi => k8.free (hO.r0 i hi), hO.rg, hO.inj, hO.ne⟩
    have hB9 := hB7.mono s9.ex
    have hp9 := s9.ex _ _ hp
    have ht9 := ht.mono fs_mono s9.ex
    have hrs9 := hrs.mono rul_mono s9.ex
    refine q_setX (Φ := fun v G' => ∃ x, v = .ref x ∧ SchAt (He.ga K "Schema") G' x (ctb tb) rs) lp9.st.sub (ge_make (ga_cons (gv_op (gv_var rfl) gv_c (rv_ixT hp9 (at0 _ _))) (ga_cons (gv_op (gv_var rfl) gv_c (rv_ixT hp9 (atN (j := 1) rfl))) ga_nil)) fun x dx H1 H2 s1 n1 e12 h2 Q E q => ⟨x, dt, lr, dx, tb, rs, G9, H1, rfl, s1, e12, n1, h2, ht9, og.tok, hrs9, okr, fun G' H' d l st ow ht' hr' => q G' H' (insS d l) st ow ⟨x, rfl, dx, d, l, upd_same, ht'.mono fs_mono (Same.put ow.g), hr'.mono rul_mono (Same.put ow.g)⟩⟩) fun v G10 H10 s10 hv => ?_
    obtain ⟨sc, rfl, hSc⟩ := hv
    have lp10 := lp9.step s10
    obtain ⟨hX10, hO10⟩ := rows_step hX hO s10
    have oT := ctb_ok og.tok
    have cT := ctb_can tb
    refine q_parCC (ga_cons (gv_var rfl) (ga_cons (gv_var rfl) ga_nil)) lp10.st.sub fun H0 e10 => ?_
    replace lp10 := lp10.grow e10
    replace hX10 : RowsX G10 H0 d R pa ra := ⟨e10 _ _ hX10.dict, hX10.tup, fun q hq => e10 _ _ (hX10.row q hq)⟩
    clear e10
    refine ⟨sc, d, ctb tb, rs, R, pa, ra, G10, H, rfl, lp10.st.sub, hSc, oT, cT, oR, hX10, hO10, fun x G11 H11 kk ad s11 hT adO => ?_⟩
    have lp11 := lp10.step s11
    obtain ⟨hX11, hO11⟩ := rows_step hX10 hO10 s11
    have L11 : LSt (He.ga K "Tables") H G11 H11 x sc d tb R kk ad pa ra := ⟨hT, ⟨fun t ht => lp10.st.keep.free (adO.h0 t ht), adO.g, adO.inj⟩, hX11, hO11, fun t ht z => (by
      have := adO.h0 t ht
      rw [z, hX10.dict] at this; cases this), fun t ht i hi z => (by
      obtain ⟨q, hq, rfl⟩ := List.mem_map.mp hi
      have := adO.h0 t ht
      rw [z, hX10.row q hq] at this; cases this), oR⟩
    have eG11 := s10.ex.trans s11.ex
    refine (ga_cons (gv_var rfl) (ga_cons (gv_var rfl) ga_nil)) H11 lp11.st.sub _ fun H9 e9 => ?_
    replace lp11 := lp11.grow e9
    replace L11 := L11.grow e9
    replace hX11 : RowsX G11 H9 d R pa ra := ⟨e9 _ _ hX11.dict, hX11.tup, fun q hq => e9 _ _ (hX11.row q hq)⟩
    clear e9
    refine groups_call lp11.st.sub (eG11 _ _ hp9) (ht9.mono fs_mono eG11) og hX11 hO11 oR fun f G12 H12 s12 hdue => ?_
    have lp12 := lp11.step s12
    have L12 := L11.stp s12
    have eG12 := eG11.trans s12.ex
    have hB12 := hB9.mono eG12
    have hp12 := eG12 _ _ hp9
    have ht12 := ht9.mono fs_mono eG12
    have hrs12 := hrs9.mono rul_mono eG12
    have hS12 := hSc.mono (s11.ex.trans s12.ex)
    have eG2 := eG.trans (s7.ex.trans (s9.ex.trans eG12))
    clear hX10 hO10 hX11 hO11 L11 hX hO hT adO hB9 hp9 ht9 hrs9 hSc oR hB6 hB7 hp ht hrs s7 s9 s10 s11 s12 lp7 lp8 lp9 lp10 lp11 e8 k8 eG11
    dsimp only
    refine s_for (Pre := Fr0) (G0 := fun _ => none) (H0 := H) (ds := List.range 3) (up := upN 8 fun i => .int (i : Nat)) (Iv := fun (i : Nat) σ2 G5 H5 => ∃ f v8 v9 v10 v11 v12 v13 v14 v15 R, σ2 = [some (.ref a), some (.ref b), some (.int (dd : Nat)), some (.ref p), some (.ref d), some (.ref sc), some (.ref x), some (.ref f), v8, v9, v10, v11, v12, v13, v14, v15] ∧ Same G12 G5 ∧ LSt (He.ga K "Tables") H G5 H5 x sc d tb R kk ad pa ra ∧ LtV false (.ref f) (groupsD (ctb tb) R) G5)
      lp12.st (gi_range1 (n := 3) gv_c (by omega)) trivial (by
        rintro _ _ _ _ _ e ⟨f, v8, v9, v10, v11, v12, v13, v14, v15, R, h1, h2, h3, h4⟩
        exact ⟨f, v8, v9, v10, v11, v12, v13, v14, v15, R, h1, h2, h3.grow e, h4⟩) (fun G5 H5 s5 => ⟨f, _, _, _, _, _, _, _, _, R, rfl, s5.ex, L12.stp s5, lt_mono _ _ _ _ _ s5.ex hdue⟩) (fun G5 H5 s5 i2 dd2 hdd2 σ2 G6 H6 lp iv => ?_) fun G6 H6 σ2 lp iv => ?_
    · obtain ⟨f, v8, v9, v10, v11, v12, v13, v14, v15, R, rfl, eG, L, hdue⟩ := iv
      refine q_tail (fun σ' H' => ∃ f R G', σ' = [some (.ref a), some (.ref b), some (.int (dd : Nat)), some (.ref p), some (.ref d), some (.ref sc), some (.ref x), some (.ref f), some (.int (dd2 : Nat)), v9, v10, v11, v12, v13, v14, v15] ∧ Lp (fun _ => none) H G5 H5 G' H' ∧ Same G12 G' ∧ LSt (He.ga K "Tables") H G' H' x sc d tb R kk ad pa ra ∧ LtV false (.ref f) (groupsD (ctb tb) R) G') (fun nxt => ?_) ?_
      · refine s_if (G := tel G6 H6 (LM d tb R ad ra)) (tel_sub lp.st.sub) (gt_and (gt_test (gv_op (gv_var rfl) gv_c (rv_eq rfl))) fun _ => gt_test (gv_neE (gv_var rfl) L.rwsT.dict)) (fun hy H7 e7 => ?_) fun _ H7 e7 => ?_
        · have hne : R ≠ [] := fun z => by
            subst z
            simp at hy
          refine s_call (ga_cons (gv_var rfl) (ga_cons (gv_var rfl) (ga_cons (gv_var rfl) (ga_cons (gv_var rfl) ga_nil)))) (lp.st.sub.same e7) fun H8 e8 => ?_
          have L8 := (L.grow e7).grow e8
          have lp8 := (lp.grow e7).grow e8
          refine ⟨b, p, dt, lr, x, d, sc, tb, rs, R, kk, ad, pa, ra, G6, H, rfl, lp8.st.sub, hB12.mono eG, eG _ _ hp12, ht12.mono fs_mono eG, og, hS12.mono eG, L8, hne, fun f2 R2 G9 H9 s9 L9 hd9 inR => nxt _ _ ⟨f2, R2, G9, rfl, lp8.mut (fun m hm => (L8.mem hm).1) (fun m hm => (L8.mem hm).2.2.2) s9, eG.trans s9.ex, ⟨L9.tab, ⟨L8.ado.h0, L9.ado.g, L9.ado.inj⟩, L9.rws, ⟨L8.rwo.d0, L9.rwo.dg, fun i hi => L8.rwo.r0 i (inR i hi), L9.rwo.rg, L9.rwo.inj, L9.rwo.ne⟩, L9.nad, L9.nar, L9.ok⟩, hd9⟩⟩
        · exact nxt _ _ ⟨f, R, G6, rfl, lp.grow e7, eG, L.grow e7, hdue⟩
      · clear L hdue lp eG
        rintro σ' H7 ⟨f, R, G7, rfl, lp7, eG, L, hdue⟩
        have gM : ∀ m ∈ LM d tb R ad ra, G7 m = none := fun m hm => (L.mem hm).2.1
        have sT : Sub (tel G7 H7 (LM d tb R ad ra)) H7 := tel_sub lp7.st.sub
        have eT := L.same
        have tT := L.tabT
        have rT := L.rwsT
        have oR := L.ok
        generalize hTT : tel G7 H7 (LM d tb R ad ra) = T7 at sT eT tT rT
        refine q_call (ga_cons (gv_var rfl) ga_nil) sT fun H8 e8 => ⟨x, sc, ctb tb, rs, R, kk, ad, T7, rfl, sT.same e8, tT, hS12.mono (eG.trans eT), oT, cT, oR, fun fp G9 H9 pts s9 ofp al => ?_⟩
        have hS9 := hS12.mono (eG.trans (eT.trans s9.ex))
        obtain ⟨M2, zs, Mc, pv, z3, ep⟩ := parts_view ofp al hS9
        rw [ep] at ofp
        have g2 : ∀ m ∈ M2, G9 m = none := fun m hm => (Mc m hm).2.1
        have sV : Sub (tel G9 H9 M2) H9 := tel_sub s9.sub
        have eV : Same G9 (tel G9 H9 M2) := tel_same g2
        generalize hV : tel G9 H9 M2 = V9 at sV eV pv
        have eTV := s9.ex.trans eV
        have tV := tT.mono eTV fun t ht o e => eTV _ _ e
        have rV := rT.mono1 eTV
        have dV := lt_mono _ _ _ _ _ (eT.trans eTV) hdue
        have eGV := (eG.trans eT).trans eTV
        have okG := groups_ok (tb := ctb tb) oR.nd
        have lz := pv.len oR
        clear Mc al ep
        dsimp only
        refine q_no sV (gt_or (gt_not (gt_B (gv_isiY (gv_var rfl) (ty_lst pv.lst)))) fun _ => gt_not (gt_geB (ge_callX (gxa_cons (Ψ := fun v G' => LtV false v (groupsD (ctb tb) R) G') (ge_gm (gm_lc (pf := fun _ => true) (ds := zs) (up := upN 10 fun z : Pt × List Str => V.ref z.1.a) (fun (z : Pt × List Str) v G' => ∃ q, v = V.ref q ∧ G' q = some (innO false z.2)) (fun z v G1 G2 e ⟨q, h1, h2⟩ => ⟨q, h1, e _ _ h2⟩) (gi_list (emb := fun z : Pt × List Str => V.ref z.1.a) (gv_var rfl) pv.lst) (by omega) (fun _ _ => rfl) (fun _ _ _ _ => gt_yes) (fun z hz _ G' e => ?_) fun _ _ _ _ => trivial) fun q o G' e gq ho => ?_) fun v G' e hv => gxa_consV (gv_var rfl) (gxa_nil (sx_alike hv (lt_mono _ _ _ _ _ e dV) (sml_groups oR))))))) fun H10 e10 => ?_
        · obtain ⟨dx, hi⟩ := id (pv.tab z hz).ins
          exact ge_gn (gn_meth (gv_var rfl) (e _ _ hi) rfl ga_nil (sp_ids ((pv.tab z hz).mono e fun _ _ _ h => e _ _ h) oT (pv.ok oR hz))) fun q gq => ⟨q, rfl, by rw [upd_same, okG.ids (pv.grp hz)]; rfl⟩
        · obtain ⟨xs, rfl, al2⟩ := ho
          rw [List.filter_eq_self.mpr (fun _ _ => rfl)] at al2
          refine ⟨q, xs, rfl, upd_same, ?_⟩
          rw [← pv.gs]
          exact all2_flip (f := fun z : Pt × List Str => z.2) (al2.imp fun _ _ _ _ ⟨a, h1, h2⟩ => ⟨a, h1, Same.put gq _ _ h2⟩)
        refine q_setN (sV.same e10) gd_new fun wh H11 e11 hw hw' => ?_
        have st10 := (Stp.refl sV).grow e10
        have st11 := st10.grow e11
        have ow : Own H9 V9 wh H11 (.dK []) := .made st10 e11 hw hw'
        have wperm : (zs.flatMap fun z : Pt × List Str => flatR (ctb tb) (subR R z.2)).Perm R := by
          have h1 : (zs.flatMap fun z : Pt × List Str => flatR (ctb tb) (subR R z.2)) = (groupsD (ctb tb) R).flatMap fun g => flatR (ctb tb) (subR R g) := by rw [← pv.gs, List.flatMap_map]
          rw [h1]
          exact (flat_congr fun g hg => flatR_perm oT.nd fun q hq => (okG.sub_ok oR hg).tab hq).trans (parts_perm oR.nd)
        have wtake : ∀ j, ((zs.take j).flatMap fun z : Pt × List Str => flatR (ctb tb) (subR R z.2)).Sublist (zs.flatMap fun z : Pt × List Str => flatR (ctb tb) (subR R z.2)) := fun j => by
          conv => rhs; rw [← List.take_append_drop j zs, List.flatMap_append]
          exact List.sublist_append_left _ _
        have wlen : ∀ j, ((zs.take j).flatMap fun z : Pt × List Str => flatR (ctb tb) (subR R z.2)).length ≤ 10 := fun j => Nat.le_trans (wtake j).length_le (by rw [wperm.length_eq]; exact oR.len)
        have wnd : ((zs.flatMap fun z : Pt × List Str => flatR (ctb tb) (subR R z.2)).map (·.1)).Nodup := (wperm.map _).nodup_iff.mpr oR.nd
        refine q_of (s_for (Pre := Fr0) (G0 := V9) (H0 := H9) (ds := zs) (up := upN 10 fun z : Pt × List Str => V.ref z.1.a) (Iv := fun (j : Nat) σ2 G5 H5 => ∃ v10 kvs, σ2 = [some (.ref a), some (.ref b), some (.int (dd : Nat)), some (.ref p), some (.ref d), some (.ref sc), some (.ref x), some (.ref f), some (.int (dd2 : Nat)), some (.ref fp), v10, some (.ref wh), v12, v13, v14, v15] ∧ Same V9 G5 ∧ Own H9 G5 wh H5 (.dK kvs) ∧ PrD EntV G5 kvs ((zs.take j).flatMap fun z : Pt × List Str => flatR (ctb tb) (subR R z.2)))
          st11 (gi_list (emb := fun z : Pt × List Str => V.ref z.1.a) (gv_var rfl) pv.lst) trivial (by
            rintro _ _ _ _ _ e ⟨v10, kvs, h1, h2, h3, h4⟩
            exact ⟨v10, kvs, h1, h2, h3.grow e, h4⟩) (fun G5 H5 s5 => ⟨_, [], rfl, s5.ex, ow.step s5, .nil⟩) (fun G12 H12 s12 j z hz σ2 G13 H13 lpw iv => ?_) fun G12 H12 σ2 lpw iv => ?_)
        · obtain ⟨v10, kvs, rfl, eW, own, hpk⟩ := iv
          have zm := List.mem_of_getElem? hz
          have tz := (pv.tab z zm).mono eW fun _ _ _ h => eW _ _ h
          refine s_dupd lpw.st.sub (gv_var rfl) own.at_ (ge_call (Φ := fun v G' => ∃ q more, v = .ref q ∧ G' q = some (.dK more) ∧ PrD EntV G' more (flatR (ctb tb) (subR R z.2))) (ga_cons (gv_var rfl) ga_nil) fun H sb Q E q => ⟨z.1.a, sc, ctb tb, rs, subR R z.2, z.1.k, z.1.ad, G13, rfl, sb, tz, pv.sch.mono eW, oT, pv.ok oR zm, fun p G' H' kvs st h1 h2 => q _ G' H' st ⟨p, kvs, rfl, h1, h2⟩⟩) fun v G14 H14 s14 hv => ?_
          obtain ⟨q, more, rfl, hq, hm⟩ := hv
          have own' := own.step s14
          have hpk' := hpk.mono ent_mono s14.ex
          have all8 : PrD EntV G14 (kvs ++ more) ((zs.take (j + 1)).flatMap fun z : Pt × List Str => flatR (ctb tb) (subR R z.2)) := by
            rw [flat_snoc hz]
            exact all2_app hpk' hm
          have kn : ((kvs ++ more).map (·.1)).Nodup := by
            rw [all8.keys]
            exact List.pairwise_map.mpr ((wnd.sublist ((wtake _).map _)).imp fun h z => h (Sum.inr.inj z))
          have lk := all8.length
          have lw := wlen (j + 1)
          rw [List.length_append] at lk
          refine ⟨q, more, rfl, fun e => ?_, s14.sub.rd hq, by omega, ⟨G14, (lpw.step s14).write own' (by simp), _, kvs ++ more, rfl, eW.trans s14.ex, ?_, all8⟩⟩
          · rw [← e, own'.g] at hq; cases hq
          · rw [← mergeK_new more kvs kn]
            exact own'.write
        · obtain ⟨v10, kvs, rfl, eW, own, hpk⟩ := iv
          rw [List.take_length] at hpk
          have stR := lpw.st.tell own.g own.h0 own.at_
          have hwh : (upd G12 wh (.dK kvs)) wh = some (.dK kvs) := upd_same
          have eR := eW.trans (Same.put (o := .dK kvs) own.g)
          replace hpk := hpk.mono ent_mono (Same.put (o := .dK kvs) own.g)
          clear own eW lpw ow st10 st11 hw hw' e10 e11
          dsimp only
          generalize upd G12 wh (.dK kvs) = G13 at stR hwh eR hpk
          have oT' := oT
          refine q_no stR.sub (gt_or (gt_test (gv_op (gv_var rfl) (gv_var rfl) (rv_whole hwh hpk wperm (rV.mono1 eR) oR oT))) fun _ => gt_test (gv_eq (w := .bl false) (by simp) (gv_eqNilN (neg := true) (gl_lc (pf := fun _ => false) (ds := zs) (up := upN 10 fun z : Pt × List Str => V.ref z.1.a) (fun z => V.ref z.1.a) (gi_list (emb := fun z : Pt × List Str => V.ref z.1.a) (gv_var rfl) (eR _ _ pv.lst)) (by omega) (fun _ _ => rfl) (fun z hz => gt_test (gv_op (gv_sch T ((pv.tab z hz).mono eR fun _ _ _ h => eR _ _ h) (gv_var rfl)) (gv_var rfl) (rv_neOwn (pv.sch.mono eR) oT))) fun _ _ h => nomatch h) (gl_lst ga_nil (by decide))))) fun H14 e14 => ?_
          replace stR := stR.grow e14
          clear e14 hwh hpk wnd wlen wtake wperm
          obtain ⟨rvs, hr1, hr2⟩ := hrs12
          obtain ⟨y1, y2, y3⟩ := hr2.zip
          have sp : ∀ {G' : Hp} (e : Same V9 G') {z : Pt × List Str} (hz : z ∈ zs), TabX (He.ga K "Tables") G' G' z.1.a sc (ctb tb) (subR R z.2) z.1.k z.1.ad := fun e _ hz => (pv.tab _ hz).mono e fun _ _ _ h => e _ _ h
          refine q_of (s_for (Pre := Fr0) (G0 := V9) (H0 := H9) (ds := rvs.zip rs) (up := upN 12 fun q : V × Rul => q.1) (Iv := fun (j : Nat) σ2 G5 H5 => ∃ v10 v12 v13 v14, σ2 = [some (.ref a), some (.ref b), some (.int (dd : Nat)), some (.ref p), some (.ref d), some (.ref sc), some (.ref x), some (.ref f), some (.int (dd2 : Nat)), some (.ref fp), v10, some (.ref wh), v12, v13, v14, v15] ∧ Same G13 G5)
            stR (gi_list (emb := fun q : V × Rul => q.1) (gv_op (gv_var rfl) gv_c (rv_ixT ((eGV.trans eR) _ _ hp12) (atN (j := 1) rfl))) (by rw [← y1]; exact (eGV.trans eR) _ _ hr1)) trivial (by
              rintro _ _ _ _ _ e h
              exact h) (fun G5 H5 s5 => ⟨_, _, _, _, rfl, s5.ex⟩) (fun G14 H14 s14 j q hq σ2 G15 H15 lpr iv => ?_) fun G14 H14 σ2 lpr iv => ?_)
          · obtain ⟨v10, v12, v13, v14, rfl, eW⟩ := iv
            have qm := List.mem_of_getElem? hq
            have eVW := eR.trans eW
            obtain ⟨p0, x0, xs0, ev, hp0⟩ := (rul_mono _ _ _ _ (eGV.trans eVW) (y3 q qm)).any
            obtain ⟨v, r⟩ := q
            dsimp only at ev hp0
            subst ev
            have hrm : r ∈ rs := (List.of_mem_zip qm).2
            have okr' := rulOk_c og (okr.ok r hrm)
            have hSW := pv.sch.mono eVW
            have tW := tV.mono eVW fun _ _ _ h => eVW _ _ h
            have eG7 : Same G13 G15 := eW
            refine s_if lpr.st.sub (gt_test (gv_op (gv_op (gv_var rfl) gv_c (rv_ixT hp0 (atN (j := 1) rfl))) gv_c (rv_eq rfl))) (fun hy H16 e16 => ?_) fun hn H16 e16 => ?_
            · have lp16 := lpr.grow e16
              have hk : r.kind = "some" := V.str.inj (of_decide_eq_true hy)
              obtain ⟨n, t, ts, rfl⟩ : ∃ n t ts, r = .some n t ts := by
                cases r with
                | some n t ts => exact ⟨n, t, ts, rfl⟩
                | link => exact absurd hk (show ¬ (("link" : Str) = "some") by decide)
                | uniq => exact absurd hk (show ¬ (("unique" : Str) = "some") by decide)
                | check => exact absurd hk (show ¬ (("check" : Str) = "some") by decide)
              have esome : V.bl (if false then !inV (.bl true) ((zs.filter fun _ => true).map fun z : Pt × List Str => V.bl (spotsD (ctb tb) (subR R z.2) (.some n t ts)).isEmpty) else inV (.bl true) ((zs.filter fun _ => true).map fun z : Pt × List Str => V.bl (spotsD (ctb tb) (subR R z.2) (.some n t ts)).isEmpty)) = .bl (spotsD (ctb tb) R (.some n t ts)).isEmpty := by
                rw [List.filter_eq_self.mpr (fun _ _ => rfl), if_neg (by simp)]
                have h1 : (zs.map fun z : Pt × List Str => V.bl (spotsD (ctb tb) (subR R z.2) (.some n t ts)).isEmpty) = ((groupsD (ctb tb) R).map fun g => (spotsD (ctb tb) (subR R g) (.some n t ts)).isEmpty).map V.bl := by
                  rw [← pv.gs, List.map_map, List.map_map]
                  rfl
                rw [h1, inV_true, List.any_map]
                exact congrArg V.bl (some_parts oR)
              refine q_set lp16.st.sub (gv_eq esome (gv_opN2 gv_c (gl_lc (pf := fun _ => true) (ds := zs) (up := upN 10 fun z : Pt × List Str => V.ref z.1.a) (fun z : Pt × List Str => V.bl (spotsD (ctb tb) (subR R z.2) (.some n t ts)).isEmpty) (gi_list (emb := fun z : Pt × List Str => V.ref z.1.a) (gv_var rfl) (eVW _ _ pv.lst)) (by omega) (fun _ _ => rfl) (fun _ _ => gt_yes) (fun z hz _ => gv_call (ga_cons (gv_var rfl) (ga_cons (gv_op (gv_var rfl) gv_c (rv_ixT hp0 (at0 _ _))) ga_nil)) (sv_holds (sp eVW hz) hSW (pv.ok oR hz) oT okr.len okr.nd hrm okr'))) fun q gq => rv_inL (neg := false) upd_same rfl ?_)) fun H17 e17 => ?_
              · rw [List.all_eq_true]
                intro x hx
                obtain ⟨z, _, rfl⟩ := List.mem_map.mp hx
                rfl
              · have lp17 := lp16.grow e17
                exact s_no lp17.st.sub (gt_not (gt_B (gv_call (ga_cons (gv_call (ga_cons (gv_var rfl) (ga_cons (gv_op (gv_var rfl) gv_c (rv_ixT hp0 (at0 _ _))) ga_nil)) (sv_holds tW hSW oR oT okr.len okr.nd hrm okr')) (ga_cons (gv_var rfl) ga_nil)) sv_alikeB))) fun H18 e18 => ⟨G15, lp17.grow e18, _, _, _, _, rfl, eW⟩
            · have lp16 := lpr.grow e16
              have hns : r.notSome := by
                cases r with
                | some n t ts => exact absurd (of_decide_eq_false hn) (fun z => z rfl)
                | link => trivial
                | uniq => trivial
                | check => trivial
              have smz : ∀ z ∈ zs, Sml (spotsD (ctb tb) (subR R z.2) r) ∧ ∀ x ∈ spotsD (ctb tb) (subR R z.2) r, x ≠ [] := fun z hz => sml_spots (pv.ok oR hz) hns
              have efl : (zs.map fun z : Pt × List Str => spotsD (ctb tb) (subR R z.2) r).flatten = (groupsD (ctb tb) R).flatMap fun g => spotsD (ctb tb) (subR R g) r := by
                rw [← pv.gs, List.flatMap_map]
                rfl
              have lfl : (zs.map fun z : Pt × List Str => spotsD (ctb tb) (subR R z.2) r).flatten.length ≤ 100000 := by
                have := sum_le (fun z : Pt × List Str => (spotsD (ctb tb) (subR R z.2) r).length) 200 zs fun z hz => (smz z hz).1.1
                rw [List.length_flatten, List.map_map]
                exact Nat.le_trans this (by omega)
              refine q_setX (Φ := fun v G' => TusV v ((groupsD (ctb tb) R).flatMap fun g => spotsD (ctb tb) (subR R g) r) G') lp16.st.sub (ge_sum (ge_gm (gm_lc (pf := fun _ => true) (ds := zs) (up := upN 10 fun z : Pt × List Str => V.ref z.1.a) (fun (z : Pt × List Str) v G' => TusV v (spotsD (ctb tb) (subR R z.2) r) G') (fun z v G1 G2 e h => tus_mono _ _ _ _ e h) (gi_list (emb := fun z : Pt × List Str => V.ref z.1.a) (gv_var rfl) (eVW _ _ pv.lst)) (by omega) (fun _ _ => rfl) (fun _ _ _ _ => gt_yes) (fun z hz _ G' e => ge_call (ga_cons (gv_var rfl) (ga_cons (gv_op (gv_var rfl) gv_c (rv_ixT (e _ _ hp0) (at0 _ _))) ga_nil)) (sx_spots (sp (eVW.trans e) hz) (hSW.mono e) (pv.ok oR hz) oT okr.len okr.nd hrm okr')) fun _ _ _ _ => trivial) fun q o G' e gq ho => ?_)) fun v G17 H17 s17 hv => ?_
              · obtain ⟨xs, rfl, al⟩ := ho
                rw [List.filter_eq_self.mpr (fun _ _ => rfl)] at al
                exact ⟨q, xs, zs.map fun z : Pt × List Str => spotsD (ctb tb) (subR R z.2) r, rfl, upd_same, all2_flip (f := fun z : Pt × List Str => spotsD (ctb tb) (subR R z.2) r) (al.imp fun _ _ _ _ h => tus_mono _ _ _ _ (Same.put gq) h), lfl, fun v2 G2 e2 h => by rw [efl] at h; exact h⟩
              · have lp17 := lp16.step s17
                refine s_no lp17.st.sub (gt_not (gt_geB (ge_callX (gxa_cons (Ψ := fun v G' => TusV v (spotsD (ctb tb) R r) G') (ge_sortedU (ge_gv (gv_var rfl) ⟨_, hv, fun x hx => ?_, fun v2 G2 e2 h => ?_⟩)) fun v' G' e hv' => gxa_cons (Ψ := fun v G' => TusV v (spotsD (ctb tb) R r) G') (ge_call (ga_cons (gv_var rfl) (ga_cons (gv_op (gv_var rfl) gv_c (rv_ixT ((s17.ex.trans e) _ _ hp0) (at0 _ _))) ga_nil)) (sx_spots (tW.mono (s17.ex.trans e) fun _ _ _ h => (s17.ex.trans e) _ _ h) (hSW.mono (s17.ex.trans e)) oR oT okr.len okr.nd hrm okr')) fun u G'' e2 hu => gxa_nil (sx_alike (tup := true) (tus_mono _ _ _ _ e2 hv') hu (sml_spots oR hns).1))))) fun H18 e18 => ⟨G17, lp17.grow e18, _, _, _, _, rfl, eW.trans s17.ex⟩
                · rw [← efl] at hx
                  obtain ⟨l, hl, hx⟩ := List.mem_flatten.mp hx
                  obtain ⟨z, hz, rfl⟩ := List.mem_map.mp hl
                  exact (smz z hz).2 x hx
                · rw [spots_parts oT oR okr' hns] at h
                  exact h
          · obtain ⟨v10, v12, v13, v14, rfl, eW⟩ := iv
            have stA : Stp G9 H9 (wo M2 G14) H14 := by
              have := lpr.st
              rw [← hV] at this
              exact this.untel g2
            have stB := s9.trans stA
            have ofpA := ofp.step stA
            have zA : ∀ z ∈ zs, PtAt (He.ga K "Tables") H8 (wo M2 G14) H14 sc (ctb tb) R z.1 z.2 := fun z hz => (z3 z hz).step stA
            clear eW lpr stA stR eR z3 ofp s9
            dsimp only
            refine q_of (s_for (Pre := fun H => H fp = some (.lst (zs.map fun z : Pt × List Str => V.ref z.1.a))) (G0 := T7) (H0 := H8) (ds := zs.take 1) (up := upN 10 fun z : Pt × List Str => V.ref z.1.a) (Iv := fun (j : Nat) σ2 G5 H5 => ∃ v10 v15, σ2 = [some (.ref a), some (.ref b), some (.int (dd : Nat)), some (.ref p), some (.ref d), some (.ref sc), some (.ref x), some (.ref f), some (.int (dd2 : Nat)), some (.ref fp), v10, some (.ref wh), v12, v13, v14, v15] ∧ Own H8 G5 fp H5 (.lst (zs.map fun z : Pt × List Str => V.ref z.1.a)) ∧ (j = 0 → ∀ z ∈ zs, PtAt (He.ga K "Tables") H8 G5 H5 sc (ctb tb) R z.1 z.2))
              stB (gi_listNT (emb := fun z : Pt × List Str => V.ref z.1.a) (gl_slL (gv_var rfl) upd_same to_none to_int (cut_one _ _))) ofpA.at_ (by
                rintro _ _ _ _ _ e ⟨v10, v15, h1, h2, h3⟩
                exact ⟨v10, v15, h1, h2.grow e, fun j0 z hz => (h3 j0 z hz).grow e⟩) (fun G5 H5 s5 => ⟨_, _, rfl, ofpA.step s5, fun _ z hz => (zA z hz).step s5⟩) (fun G15 H15 s15 j z hz σ2 G16 H16 lpd iv => ?_) fun G15 H15 σ2 lpd iv => ?_)
            · obtain ⟨v10, v15, rfl, ofd, hz3⟩ := iv
              have hj : j = 0 := by
                obtain ⟨h1, _⟩ := List.getElem?_eq_some_iff.mp hz
                rw [List.length_take] at h1
                omega
              have zm : z ∈ zs := List.mem_of_mem_take (List.mem_of_getElem? hz)
              obtain ⟨tz, az⟩ := hz3 hj z zm
              have okz := pv.ok oR zm
              have tzV := tz.tel az.g
              have eVz := tel_G (H := H16) az.g
              have sVz : Sub (tel G16 H16 (adL (ctb tb) z.1.ad)) H16 := tel_sub lpd.st.sub
              obtain ⟨dx, hi⟩ := id tzV.ins
              obtain ⟨i, g', hg⟩ : ∃ i g', z.2 = i :: g' := by
                obtain ⟨i, hi, e⟩ := okG.is z.2 (pv.grp zm)
                have : i ∈ z.2 := by rw [e]; exact cmp_mem.mpr ⟨idsS_mem.mp hi, .here⟩
                cases h : z.2 with
                | nil => rw [h] at this; cases this
                | cons i g' => exact ⟨i, g', rfl⟩
              have eids := okG.ids (pv.grp zm)
              have im : i ∈ (subR R z.2).map (·.1) := by
                have : i ∈ sortS ((subR R z.2).map (·.1)) := by rw [eids, hg]; exact List.mem_cons_self
                exact sortS_mem.mp this
              obtain ⟨⟨i, t, r⟩, hq, rfl⟩ := List.mem_map.mp im
              refine q_set sVz (gv_ixN (gn_meth (gv_var rfl) hi rfl ga_nil (sp_ids tzV oT okz)) gv_c (by rw [eids, hg]; exact at0 _ _)) fun H17 e17 => ?_
              have lp17 := lpd.grow e17
              have tz17 := tz.grow e17
              have htt := okz.tab hq
              have eR : valD (tOf (subR R z.2) t) i = some r := valD_of (tOf_nodup okz.nd t) (tOf_mem.mpr hq)
              have xt : ∀ u, u ≠ t → i ∉ (tOf (subR R z.2) u).map (·.1) := fun u hu hm => by
                obtain ⟨r', hr'⟩ := tOf_ids.mp hm
                have e1 := valD_of okz.nd hr'
                rw [valD_of okz.nd hq] at e1
                cases e1
                exact hu rfl
              have h8t : H8 (z.1.ad t) = none := az.h0 t htt
              refine s_dropT (H0 := H8) lp17.st.sub (sVz.same e17) eVz tz17 az htt eR xt (gv_var rfl) (gv_eq (by rw [tabOf_in okz hq]; rfl) (gv_meth (gv_var rfl) hi rfl (ga_cons (gv_var rfl) ga_nil) (sv_tabOf tzV))) (gv_var rfl) fun H18 s18 hT18 => ⟨G16, lp17.mut (M := [z.1.ad t]) (fun m hm => by rw [List.mem_singleton.mp hm]; exact h8t) (fun m hm ob u => by
                rw [List.mem_singleton.mp hm]
                obtain ⟨kvs, ek, _⟩ := tz17.inn t htt
                rw [ek]; simp) s18, _, _, rfl, (ofd.grow e17).mut (M := [z.1.ad t]) (fun hm => ?_) s18, fun j0 => by omega⟩
              obtain ⟨kvs, ek, _⟩ := tz17.inn t htt
              have := (ofd.grow e17).at_
              rw [List.mem_singleton.mp hm, ek] at this
              cases this
            · obtain ⟨v10, v15, rfl, ofd, _⟩ := iv
              have stC := lpd.st
              clear lpd zA ofpA stB hV sV eV
              dsimp only
              refine q_no stC.sub (gt_opX (Ψ := fun v G' => ∃ q kvs, v = .ref q ∧ G' q = some (.dK kvs) ∧ PrD EntV G' kvs (flatR (ctb tb) R)) (ge_call (ga_cons (gv_var rfl) ga_nil) fun H sb Q E q => ⟨x, sc, ctb tb, rs, R, kk, ad, G15, rfl, sb, tT.mono stC.ex (fun _ _ _ h => stC.ex _ _ h), hS12.mono ((eG.trans eT).trans stC.ex), oT, oR, fun p G' H' kvs st h1 h2 => q _ G' H' st ⟨p, kvs, rfl, h1, h2⟩⟩) fun v G' e ⟨q, kvs, ev, h1, h2⟩ => ⟨gv_var rfl, by subst ev; exact rv_whole h1 h2 (flatR_perm oT.nd fun q hq => oR.tab hq) (rT.mono1 (stC.ex.trans e)) oR oT⟩) fun H16 e16 => ?_
              have stD := stC.grow e16
              have ofD := ofd.grow e16
              refine s_append stD.sub (gv_var rfl) gv_c ofD.at_ (by rw [List.length_map, sizeLine_eq]; omega) fun H17 e17 => ?_
              have stE := ((stD.grow e17).writeO (u := .lst ((zs.map fun z : Pt × List Str => V.ref z.1.a) ++ [.non])) (ofD.grow e17)).pre e8
              generalize upd H17 fp _ = H18 at stE ⊢
              have stF : Stp G7 H7 (wo (LM d tb R ad ra) G15) H18 := by
                rw [← hTT] at stE
                exact stE.untel gM
              exact ⟨wo (LM d tb R ad ra) G15, lp7.step stF, f, _, _, _, _, _, _, _, _, R, rfl, eG.trans stF.ex, L.stp stF, lt_mono _ _ _ _ _ stF.ex hdue⟩
    · obtain ⟨f, v8, v9, v10, v11, v12, v13, v14, v15, R', rfl, eG, _, _⟩ := iv
      exact ⟨G6, ⟨lp.st, lp12.ex.trans lp.ex, fun a ob u h => lp.fz a ob u (lp12.fz a ob u h)⟩, _, _, _, _, _, _, _, _, _, _, _, _, _, _, rfl, eG2.trans eG⟩
  · obtain ⟨v2, v3, v4, v5, v6, v7, v8, v9, v10, v11, v12, v13, v14, v15, rfl, eG⟩ := iv
    dsimp only
    exact s_ret lp.st.sub gv_c fun H' _ => k H'
end
end K25

/-! F38 -/
set_option maxHeartbeats 0
namespace K25
open PySem PySem.Spec PyProof.Rows L2
theorem facts {P : Program} {w : World} {K : PySem.W.Frag} {h : Heap} {mg : Str → Option Value} {f : Addr} (X : K.In h) (G : h.Ns mainGlobals mg) (hfa : mg ("law" : Str) = some (.ref f)) (c : obsK K = valK) :
    ∃ fd : FuncData, (∀ (s : Shared) (v : Value), BindsTo s fd ⟨[v], []⟩ [("_law_script", v)]) ∧ ∀ base : Heap, K.In base → base.Ns mainGlobals mg → FnG P w K mg base 11 f fd ["_law_script"] (spLaw K) := by
  have T : Tx K mg := ⟨⟨h, X, G⟩, c⟩
  have e := hfa.symm.trans T.g_law
  cases e
  have b := FunD.bindsA (ps := ["_law_script"]) T.f_law fun _ _ _ _ _ _ us hl => match us, hl with | [_], _ => rfl
  exact ⟨_, fun s v => b s [v] rfl, fun base _ _ => fn_law T⟩
end K25
open PySem PySem.W PySem.Calls PyProof.Rows
theorem PySem.Challenge.cw_endchecks_k25_whole_parts_apart_holds : PySem.Challenge.rw_endchecks_k25_whole_parts_apart.Holds := by
  refine K25.head_of ?_
  refine K25.walk_ofG (l := PySem.Challenge.rw_endchecks_k25_whole_parts_apart) (n := 63) (k := 11) (x := "_law_script") rfl (by decide) (by kernel_rfl) ⟨rfl, by decide, by decide⟩ ?F
  intro w mg fa h Y G hmg0
  obtain ⟨K, KX, c⟩ := Y
  have hmg : mg ("law" : PySem.Str) = some (.ref fa) := by
    have e : (HandSHeadRun.topDef (OpenLaw.row PySem.Challenge.rw_endchecks_k25_whole_parts_apart).prog 60).name = ("law" : PySem.Str) := by kernel_rfl
    rw [← e]
    exact hmg0
  obtain ⟨fd, hb, hF⟩ := K25.facts (P := (PySem.Challenge.rw_endchecks_k25_whole_parts_apart).prog) (w := w) KX G hmg c
  exact ⟨K, fd, K25.spLaw K, KX, hb, fun H a ns hl _ hS => ⟨a, ns, rfl, hS, hl, fun _ => rfl⟩, hF⟩
