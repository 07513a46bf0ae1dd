import PyProof.Rows.All
import Wide.All
import OpenK.AllK
import Wide.FinOn
import HandS.ForMost
import HandS.Evl
import HandS.Walk
import HandS.Defaults
import HandS.TupAny
import HandS.Deep
import HandS.Conv
import HandS.DictComp
import HandS.IsInst
import HandS.SortInts
import HandS.SortRule
import HandS.TupSets
import HandS.List
import HandS.Text
import KE.KSortTup
import KE.SortUse
import KE.GoesEnum
import KE.KEqSeq
import KE.KStateDown
import HandS.WordsExc
import HandS.Exc
import HandS.Head0
import HandS.Head1
import HandS.Head2
import HandS.HeadEnd
import HandS.HeadHook1
import HandS.HeadHook2
import Lean
import PySem.Challenge.RW_roundowned_k56_whole_words_for_tables
set_option Elab.async false
set_option linter.all false
set_option maxRecDepth 100000
set_option maxHeartbeats 4000000
/-! values and what they stand for; evaluation that leaves all that is known -/
namespace Rk
open PySem PySem.Spec PyProof.Rows L2
open Evl (Ex EvT)
abbrev RP := Hp → V → Prop
class Mo (R : RP) : Prop where
  mo : ∀ {H H' : Hp} {v : V}, Ex H H' → R H v → R H' v
def Is (x : V) : RP := fun _ v => v = x
abbrev nI (i : Int) : RP := Is (.int i)
abbrev nB (b : Bool) : RP := Is (.bl b)
/-- tuples stay as they are -/
def ExT (H H' : Hp) : Prop := ∀ a xs, H a = some (.tup xs) → H' a = some (.tup xs)
theorem ExT.of {H H' : Hp} (e : Ex H H') : ExT H H' := fun a xs h => e a _ h
theorem ExT.refl (H : Hp) : ExT H H := fun _ _ h => h
theorem ExT.trans {H H1 H2 : Hp} (a : ExT H H1) (b : ExT H1 H2) : ExT H H2 := fun x o h => b x o (a x o h)
theorem ExT.lst {H : Hp} {p : Addr} {xs ys : List V} (h : H p = some (.lst xs)) : ExT H (upd H p (.lst ys)) := fun a zs e => by
  rw [upd_ne (fun z => by subst z; rw [h] at e; cases e)]
  exact e
class MoT (R : RP) : Prop where
  mt : ∀ {H H' : Hp} {v : V}, ExT H H' → R H v → R H' v
instance (priority := low) moOfT {R : RP} [m : MoT R] : Mo R := ⟨fun e h => m.mt (ExT.of e) h⟩
instance {x : V} : MoT (Is x) := ⟨fun _ h => h⟩
section
variable {α β : Type}
def Tup (R : α → RP) (ds : List α) : RP := fun H v => ∃ a vs, v = .ref a ∧ H a = some (.tup vs) ∧ Paired (fun v d => R d H v) vs ds
def Lst (R : α → RP) (ds : List α) : RP := fun H v => ∃ a vs, v = .ref a ∧ H a = some (.lst vs) ∧ Paired (fun v d => R d H v) vs ds
theorem pmap {F G : V → α → Prop} (h : ∀ a b, F a b → G a b) : ∀ {xs : List V} {ys : List α}, Paired F xs ys → Paired G xs ys
  | _, _, .nil => .nil
  | _, _, .cons r t => .cons (h _ _ r) (pmap h t)
theorem pmo {R : α → RP} [m : ∀ d, Mo (R d)] {H H' : Hp} (e : Ex H H') {xs : List V} {ys : List α} (p : Paired (fun v d => R d H v) xs ys) : Paired (fun v d => R d H' v) xs ys :=
  pmap (fun _ d h => (m d).mo e h) p
theorem pmt {R : α → RP} [m : ∀ d, MoT (R d)] {H H' : Hp} (e : ExT H H') {xs : List V} {ys : List α} (p : Paired (fun v d => R d H v) xs ys) : Paired (fun v d => R d H' v) xs ys :=
  pmap (fun _ d h => (m d).mt e h) p
instance mtTup {R : α → RP} [∀ d, MoT (R d)] {ds : List α} : MoT (Tup R ds) := ⟨fun e ⟨a, vs, h1, h2, h3⟩ => ⟨a, vs, h1, e a _ h2, pmt e h3⟩⟩
instance moTup {R : α → RP} [∀ d, Mo (R d)] {ds : List α} : Mo (Tup R ds) := ⟨fun e ⟨a, vs, h1, h2, h3⟩ => ⟨a, vs, h1, e a _ h2, pmo e h3⟩⟩
instance moLst {R : α → RP} [∀ d, Mo (R d)] {ds : List α} : Mo (Lst R ds) := ⟨fun e ⟨a, vs, h1, h2, h3⟩ => ⟨a, vs, h1, e a _ h2, pmo e h3⟩⟩
theorem plen {F : V → α → Prop} : ∀ {xs : List V} {ys : List α}, Paired F xs ys → xs.length = ys.length
  | _, _, .nil => rfl
  | _, _, .cons _ t => by rw [List.length_cons, List.length_cons, plen t]
theorem pget {F : V → α → Prop} : ∀ {xs : List V} {ys : List α} {i : Nat} {y : α}, Paired F xs ys → ys[i]? = some y → ∃ x, xs[i]? = some x ∧ F x y
  | _, _, _, _, .nil, e => by simp at e
  | _, _, 0, _, .cons r _, e => by simp at e; subst e; exact ⟨_, rfl, r⟩
  | _, _, i + 1, y, .cons _ t, e => by
    obtain ⟨u, h1, h2⟩ := pget (i := i) (y := y) t (by simpa using e)
    exact ⟨u, by simpa using h1, h2⟩
theorem pget' {F : V → α → Prop} : ∀ {xs : List V} {ys : List α} {i : Nat} {x : V}, Paired F xs ys → xs[i]? = some x → ∃ y, ys[i]? = some y ∧ F x y
  | _, _, _, _, .nil, e => by simp at e
  | _, _, 0, _, .cons r _, e => by simp at e; subst e; exact ⟨_, rfl, r⟩
  | _, _, i + 1, y, .cons _ t, e => by
    obtain ⟨u, h1, h2⟩ := pget' (i := i) (x := y) t (by simpa using e)
    exact ⟨u, by simpa using h1, h2⟩
theorem papp {F : V → α → Prop} : ∀ {xs xs' : List V} {ys ys' : List α}, Paired F xs ys → Paired F xs' ys' → Paired F (xs ++ xs') (ys ++ ys')
  | _, _, _, _, .nil, s => s
  | _, _, _, _, .cons r t, s => .cons r (papp t s)
theorem ptake {F : V → α → Prop} : ∀ {xs : List V} {ys : List α} (n : Nat), Paired F xs ys → Paired F (xs.take n) (ys.take n)
  | _, _, 0, _ => .nil
  | _, _, _ + 1, .nil => .nil
  | _, _, n + 1, .cons r t => .cons r (ptake n t)
theorem pdrop {F : V → α → Prop} : ∀ {xs : List V} {ys : List α} (n : Nat), Paired F xs ys → Paired F (xs.drop n) (ys.drop n)
  | _, _, 0, r => r
  | _, _, _ + 1, .nil => .nil
  | _, _, n + 1, .cons _ t => pdrop n t
theorem pis {f : α → V} : ∀ {xs : List V} {ys : List α}, Paired (fun v d => v = f d) xs ys → xs = ys.map f
  | _, _, .nil => rfl
  | _, _, .cons r t => by rw [List.map_cons, ← pis t, r]
theorem pisr {f : α → V} : ∀ (ys : List α), Paired (fun v d => v = f d) (ys.map f) ys
  | [] => .nil
  | y :: ys => .cons rfl (pisr ys)
end
abbrev Lot (l : List Int) : RP := Tup nI l
abbrev Tab (t : List (List Int)) : RP := Tup Lot t
abbrev Lots (t : List (List Int)) : RP := Lst Lot t
abbrev Ints (l : List Int) : RP := Lst nI l
abbrev Bls (bs : List Bool) : RP := Lst nB bs
theorem lot_raw {l : List Int} {H : Hp} {v : V} (h : Lot l H v) : ∃ a, v = .ref a ∧ H a = some (.tup (l.map V.int)) := by
  obtain ⟨a, vs, h1, h2, h3⟩ := h
  exact ⟨a, h1, by rw [h2, pis h3]⟩
theorem raw_lot {l : List Int} {H : Hp} {a : Addr} (h : H a = some (.tup (l.map V.int))) : Lot l H (.ref a) := ⟨a, _, rfl, h, pisr l⟩
theorem ints_raw {l : List Int} {H : Hp} {v : V} (h : Ints l H v) : ∃ a, v = .ref a ∧ H a = some (.lst (l.map V.int)) := by
  obtain ⟨a, vs, h1, h2, h3⟩ := h
  exact ⟨a, h1, by rw [h2, pis h3]⟩
theorem raw_ints {l : List Int} {H : Hp} {a : Addr} (h : H a = some (.lst (l.map V.int))) : Ints l H (.ref a) := ⟨a, _, rfl, h, pisr l⟩
theorem bls_raw {l : List Bool} {H : Hp} {v : V} (h : Bls l H v) : ∃ a, v = .ref a ∧ H a = some (.lst (l.map V.bl)) := by
  obtain ⟨a, vs, h1, h2, h3⟩ := h
  exact ⟨a, h1, by rw [h2, pis h3]⟩
def rng (n : Int) : List Int := (List.range n.toNat).map fun (i : Nat) => (i : Int)
/-! ### what evaluates to what -/
def EvX (te : TE) (σ : L2.St) (H : Hp) (R : RP) : Prop := ∀ H1, Ex H H1 → ∀ Q : VK, (∀ v H2, Ex H1 H2 → R H2 v → Q v H2) → te σ H1 Q
def EaX (ta : TA) (σ : L2.St) (H : Hp) (Rs : List RP) : Prop := ∀ H1, Ex H H1 → ∀ Q : List V → Hp → Prop, (∀ vs H2, Ex H1 H2 → Paired (fun v R => R H2 v) vs Rs → Q vs H2) → ta σ H1 Q
/-- what is walked -/
def WkD {α : Type} (J : It) (H : Hp) (R : α → RP) (ds : List α) : Prop := ∀ H3, Ex H H3 → (∀ i d, ds[i]? = some d → J.go i H3 ∧ ∀ x H4, J.yld i H3 x H4 → Ex H3 H4 ∧ R d H4 x) ∧ J.stop ds.length H3
def EiX {α : Type} (wi : TI) (σ : L2.St) (H : Hp) (R : α → RP) (ds : List α) : Prop := ∀ H1, Ex H H1 → ∀ Rk : It → Hp → Prop, (∀ J H2, Ex H1 H2 → WkD J H2 R ds → Rk J H2) → wi σ H1 Rk
section
variable {α β : Type} {K : PySem.W.Frag} {σ : L2.St} {H H' : Hp} {ta tb te : TE} {t u : TT} {R S : RP} {i j : Int} {z v : V}
theorem EvX.mono (e : Ex H H') (h : EvX te σ H R) : EvX te σ H' R := fun H1 a Q q => h H1 (e.trans a) Q q
theorem EvX.go {Q : VK} (h : EvX te σ H R) (q : ∀ v H2, Ex H H2 → R H2 v → Q v H2) : te σ H Q := h H (Ex.refl H) Q q
theorem EvX.imp {S : RP} (h : EvX te σ H R) (k : ∀ H2 v, R H2 v → S H2 v) : EvX te σ H S := fun H1 e Q q => h H1 e Q fun v H2 e2 r => q v H2 e2 (k _ _ r)
theorem EvX.eqI {i j : Int} (h : EvX te σ H (nI i)) (e : i = j) : EvX te σ H (nI j) := e ▸ h
theorem EvX.eqB {i j : Bool} (h : EvX te σ H (nB i)) (e : i = j) : EvX te σ H (nB j) := e ▸ h
theorem ev_var {n : Nat} [m : Mo R] (h : σ[n]? = some (some v)) (r : R H v) : EvX (tVar n) σ H R := fun H1 e _ q => ⟨v, h, q v H1 (Ex.refl H1) (m.mo e r)⟩
theorem ev_c {x : V} : EvX (tC x) σ H (Is x) := fun H1 _ _ q => q _ H1 (Ex.refl H1) rfl
theorem ev_i0 {g : Int → Int → V} (ha : EvX ta σ H (nI i)) (hb : EvX tb σ H (nI j)) (e : g i j = z) : EvX (tOp (rI0 g) ta tb) σ H (Is z) := fun H1 a _ q =>
  ha H1 a _ fun _ H2 e2 r2 => hb H2 (a.trans e2) _ fun _ H3 e3 r3 => ⟨i, j, r2, r3, q _ H3 (e2.trans e3) e⟩
theorem ev_i {C : Int → Int → Prop} {g : Int → Int → V} (ha : EvX ta σ H (nI i)) (hb : EvX tb σ H (nI j)) (hc : C i j) (e : g i j = z) : EvX (tOp (rI C g) ta tb) σ H (Is z) := fun H1 a _ q =>
  ha H1 a _ fun _ H2 e2 r2 => hb H2 (a.trans e2) _ fun _ H3 e3 r3 => ⟨i, j, r2, r3, hc, q _ H3 (e2.trans e3) e⟩
theorem ev_u {g : Int → V} (ha : EvX ta σ H (nI i)) (e : g i = z) : EvX (tUn (rU g) ta) σ H (Is z) := fun H1 a _ q => ha H1 a _ fun _ H2 e2 r2 => ⟨i, r2, q _ H2 e2 e⟩
/-- a two-place operation by what its operands stand for -/
theorem ev_op {r : R2} [m : Mo R] {T : RP} (ha : EvX ta σ H R) (hb : EvX tb σ H S) (hr : ∀ x y H3, Ex H H3 → R H3 x → S H3 y → ∀ Q : VK, (∀ v H4, Ex H3 H4 → T H4 v → Q v H4) → r x y H3 Q) : EvX (tOp r ta tb) σ H T := fun H1 a _ q =>
  ha H1 a _ fun _ H2 e2 r2 => hb H2 (a.trans e2) _ fun _ H3 e3 r3 => hr _ _ H3 ((a.trans e2).trans e3) (m.mo e3 r2) r3 _ fun v H4 e4 r4 => q v H4 ((e2.trans e3).trans e4) r4
theorem ev_eq {x y : V} (ha : EvX ta σ H (Is x)) (hb : EvX tb σ H (Is y)) (hs : scal x y = true) {b : Bool} (e : decide (x = y) = b) : EvX (tOp rEq ta tb) σ H (nB b) :=
  ev_op ha hb fun x' y' H3 _ h1 h2 Q q => by
    cases h1
    cases h2
    exact ⟨hs, q _ H3 (Ex.refl H3) (congrArg V.bl e)⟩
theorem ev_ne {x y : V} (ha : EvX ta σ H (Is x)) (hb : EvX tb σ H (Is y)) (hs : scal x y = true) {b : Bool} (e : (!decide (x = y)) = b) : EvX (tOp rNe ta tb) σ H (nB b) :=
  ev_op ha hb fun x' y' H3 _ h1 h2 Q q => by
    cases h1
    cases h2
    exact ⟨hs, q _ H3 (Ex.refl H3) (congrArg V.bl e)⟩
theorem ev_chain {r r' : R2} {tc : TE} {k : Int} {p p' : Int → Int → Bool} {b : Bool} (ha : EvX ta σ H (nI i)) (hb : EvX tb σ H (nI j)) (hc : EvX tc σ H (nI k)) (hr : r = rI0 fun i j => .bl (p i j)) (hr' : r' = rI0 fun i j => .bl (p' i j)) (e : (p i j && p' j k) = b) : EvX (tChain r r' ta tb tc) σ H (nB b) := by
  subst hr hr'
  intro H1 a Q q
  refine ha H1 a _ fun _ H2 e2 r2 => hb H2 (a.trans e2) _ fun _ H3 e3 r3 => ⟨i, j, r2, r3, p i j, rfl, ?_⟩
  cases hp : p i j with
  | true =>
    rw [if_pos rfl]
    refine hc H3 ((a.trans e2).trans e3) _ fun _ H4 e4 r4 => ⟨j, k, r3, r4, q _ H4 ((e2.trans e3).trans e4) ?_⟩
    rw [← e, hp]
    rfl
  | false =>
    rw [if_neg (by decide)]
    refine q _ H3 (e2.trans e3) ?_
    rw [← e, hp]
    rfl
theorem ev_andV {a b : Bool} (h1 : EvX ta σ H (nB a)) (h2 : a = true → EvX tb σ H (nB b)) : EvX (tAndV ta tb) σ H (nB (a && b)) := fun H1 e Q q => h1 H1 e _ fun _ H2 e2 r2 => ⟨a, r2, by
  cases a with
  | true => exact h2 rfl H2 (e.trans e2) Q fun v H3 e3 r3 => q v H3 (e2.trans e3) r3
  | false => exact q _ H2 e2 rfl⟩
theorem ev_orV {a b : Bool} (h1 : EvX ta σ H (nB a)) (h2 : a = false → EvX tb σ H (nB b)) : EvX (tOrV ta tb) σ H (nB (a || b)) := fun H1 e Q q => h1 H1 e _ fun _ H2 e2 r2 => ⟨a, r2, by
  cases a with
  | true => exact q _ H2 e2 rfl
  | false => exact h2 rfl H2 (e.trans e2) Q fun v H3 e3 r3 => q v H3 (e2.trans e3) r3⟩
theorem ev_notV {a : Bool} (h1 : EvX ta σ H (nB a)) : EvX (tNotV ta) σ H (nB (!a)) := fun H1 e Q q => h1 H1 e _ fun _ H2 e2 r2 => ⟨a, r2, q _ H2 e2 rfl⟩
theorem ev_if {b : Bool} (h : EvT t σ H b) (h1 : b = true → EvX ta σ H R) (h2 : b = false → EvX tb σ H R) : EvX (tIf t ta tb) σ H R := fun H1 e Q q => h H1 e _ fun H2 e2 => by
  cases b with
  | true => exact h1 rfl H2 (e.trans e2) Q fun v H3 e3 r => q v H3 (e2.trans e3) r
  | false => exact h2 rfl H2 (e.trans e2) Q fun v H3 e3 r => q v H3 (e2.trans e3) r
/-! tests -/
theorem et_test {b : Bool} (h : EvX te σ H (nB b)) : EvT (tTest te) σ H b := fun H1 e _ q => h H1 e _ fun _ H2 e2 r => ⟨b, r, q H2 e2⟩
theorem et_B {b : Bool} (h : EvX te σ H (nB b)) : EvT (tB te) σ H b := fun H1 e _ q => h H1 e _ fun _ H2 e2 r => ⟨b, r, q H2 e2⟩
theorem et_yes : EvT tYes σ H true := fun H1 _ _ q => q H1 (Ex.refl H1)
theorem et_int (h : EvX te σ H (nI i)) : EvT (fun σ H Q => te σ H fun x H' => ∃ k, TruV K x H' k ∧ Q k H') σ H (i != 0) := fun H1 e _ q => h H1 e _ fun _ H2 e2 r => ⟨_, by
  cases r
  exact rfl, q H2 e2⟩
/-! arguments, calls -/
theorem ea_nil : EaX tNil σ H [] := fun H1 _ _ q => q [] H1 (Ex.refl H1) .nil
theorem ea_cons {tr : TA} {Rs : List RP} [m : Mo R] (h : EvX te σ H R) (hr : EaX tr σ H Rs) : EaX (tCons te tr) σ H (R :: Rs) := fun H1 e _ q =>
  h H1 e _ fun _ H2 e2 r2 => hr H2 (e.trans e2) _ fun vs H3 e3 r3 => q _ H3 (e2.trans e3) (.cons (m.mo e3 r2) r3)
theorem ea1 (h : EvX te σ H R) : EaX (tCons te tNil) σ H [R] := fun H1 e _ q => h H1 e _ fun _ H2 e2 r2 => q _ H2 e2 (.cons r2 .nil)
theorem pone {F : V → RP → Prop} {vs : List V} {R : RP} (p : Paired F vs [R]) : ∃ v, vs = [v] ∧ F v R := by
  cases p with
  | cons r t => cases t; exact ⟨_, rfl, r⟩
theorem ptwo {F : V → RP → Prop} {vs : List V} {R S : RP} (p : Paired F vs [R, S]) : ∃ v w, vs = [v, w] ∧ F v R ∧ F w S := by
  cases p with
  | cons r t =>
    obtain ⟨w, rfl, s⟩ := pone t
    exact ⟨_, _, rfl, r, s⟩
theorem pthree {F : V → RP → Prop} {vs : List V} {R S T : RP} (p : Paired F vs [R, S, T]) : ∃ v w x, vs = [v, w, x] ∧ F v R ∧ F w S ∧ F x T := by
  cases p with
  | cons r t =>
    obtain ⟨w, x, rfl, s, s'⟩ := ptwo t
    exact ⟨_, _, _, rfl, r, s, s'⟩
theorem ev_cb {r : List V → Hp → VK → Prop} {ta : TA} {Rs : List RP} (h : EaX ta σ H Rs) (hr : ∀ vs H2, Ex H H2 → Paired (fun v R => R H2 v) vs Rs → ∀ Q : VK, (∀ v H3, Ex H2 H3 → R H3 v → Q v H3) → r vs H2 Q) : EvX (tCB r ta) σ H R := fun H1 e _ q =>
  h H1 e _ fun vs H2 e2 r2 => hr vs H2 (e.trans e2) r2 _ fun v H3 e3 r3 => q v H3 (e2.trans e3) r3
theorem ev_cb1 {r : List V → Hp → VK → Prop} (h : EvX te σ H S) (hr : ∀ v H2, Ex H H2 → S H2 v → ∀ Q : VK, (∀ v H3, Ex H2 H3 → R H3 v → Q v H3) → r [v] H2 Q) : EvX (tCB r (tCons te tNil)) σ H R :=
  ev_cb (ea1 h) fun vs H2 e p Q q => by
    obtain ⟨v, rfl, s⟩ := pone p
    exact hr v H2 e s Q q
theorem ev_all {bs : List Bool} (h : EvX te σ H (Bls bs)) : EvX (tCB (rAll K) (tCons te tNil)) σ H (nB (bs.all id)) := ev_cb1 h fun v H2 _ s Q q => by
  obtain ⟨a, rfl, e⟩ := bls_raw s
  exact ⟨a, bs, rfl, SqL.of e, q _ H2 (Ex.refl H2) rfl⟩
theorem ev_any {bs : List Bool} (h : EvX te σ H (Bls bs)) : EvX (tCB (rAny K) (tCons te tNil)) σ H (nB (bs.any id)) := ev_cb1 h fun v H2 _ s Q q => by
  obtain ⟨a, rfl, e⟩ := bls_raw s
  exact ⟨a, bs, rfl, SqL.of e, q _ H2 (Ex.refl H2) rfl⟩
theorem ev_sum {ns : List Int} (h : EvX te σ H (Ints ns)) : EvX (tCB (rSum K) (tCons te tNil)) σ H (nI ns.sum) := ev_cb1 h fun v H2 _ s Q q => by
  obtain ⟨a, rfl, e⟩ := ints_raw s
  exact ⟨a, ns, rfl, SqL.of e, q _ H2 (Ex.refl H2) rfl⟩
def rLenX (K : PySem.W.Frag) : List V → Hp → VK → Prop := fun xs H Q => ∃ x n, xs = [x] ∧ LenV K x H n ∧ Q (.int n) H
theorem ev_lenT {T : α → RP} {ds : List α} (h : EvX te σ H (Tup T ds)) : EvX (tCB (rLenX K) (tCons te tNil)) σ H (nI ds.length) := ev_cb1 h fun v H2 _ s Q q => by
  obtain ⟨a, vs, rfl, e, p⟩ := s
  exact ⟨_, vs.length, rfl, .inr ⟨vs, SqT.of e, rfl⟩, q _ H2 (Ex.refl H2) (by rw [plen p]; rfl)⟩
theorem ev_lenL {T : α → RP} {ds : List α} (h : EvX te σ H (Lst T ds)) : EvX (tCB (rLenX K) (tCons te tNil)) σ H (nI ds.length) := ev_cb1 h fun v H2 _ s Q q => by
  obtain ⟨a, vs, rfl, e, p⟩ := s
  exact ⟨_, vs.length, rfl, .inl ⟨vs, SqL.of e, rfl⟩, q _ H2 (Ex.refl H2) (by rw [plen p]; rfl)⟩
def rTupX (K : PySem.W.Frag) : List V → Hp → VK → Prop := fun xs H Q => ∃ p ys, xs = [.ref p] ∧ ((SqL K H p ys ∧ ∀ l, H l = none → Q (.ref l) (upd H l (.tup ys))) ∨ (SqT K H p ys ∧ Q (.ref p) H))
def rLstX (K : PySem.W.Frag) : List V → Hp → VK → Prop := fun xs H Q => ∃ p ys, xs = [.ref p] ∧ (SqL K H p ys ∨ SqT K H p ys) ∧ ∀ l, H l = none → Q (.ref l) (upd H l (.lst ys))
theorem ev_tupleL {T : α → RP} [∀ d, Mo (T d)] {ds : List α} (h : EvX te σ H (Lst T ds)) : EvX (tCB (rTupX K) (tCons te tNil)) σ H (Tup T ds) := ev_cb1 h fun v H2 _ s Q q => by
  obtain ⟨a, vs, rfl, e, p⟩ := s
  exact ⟨a, vs, rfl, .inl ⟨SqL.of e, fun l hl => q _ _ (Ex.new hl) ⟨l, vs, rfl, upd_same, pmo (Ex.new hl) p⟩⟩⟩
theorem ev_listL {T : α → RP} [∀ d, Mo (T d)] {ds : List α} (h : EvX te σ H (Lst T ds)) : EvX (tCB (rLstX K) (tCons te tNil)) σ H (Lst T ds) := ev_cb1 h fun v H2 _ s Q q => by
  obtain ⟨a, vs, rfl, e, p⟩ := s
  exact ⟨a, vs, rfl, .inl (SqL.of e), fun l hl => q _ _ (Ex.new hl) ⟨l, vs, rfl, upd_same, pmo (Ex.new hl) p⟩⟩
theorem ev_listT {T : α → RP} [∀ d, Mo (T d)] {ds : List α} (h : EvX te σ H (Tup T ds)) : EvX (tCB (rLstX K) (tCons te tNil)) σ H (Lst T ds) := ev_cb1 h fun v H2 _ s Q q => by
  obtain ⟨a, vs, rfl, e, p⟩ := s
  exact ⟨a, vs, rfl, .inr (SqT.of e), fun l hl => q _ _ (Ex.new hl) ⟨l, vs, rfl, upd_same, pmo (Ex.new hl) p⟩⟩
/-! displays -/
theorem ev_tup0 {T : α → RP} : EvX (tTup tNil) σ H (Tup T []) := fun H1 _ _ q => ⟨by show 0 ≤ sizeLine; decide, fun p hp => q _ _ (Ex.new hp) ⟨p, [], rfl, upd_same, .nil⟩⟩
theorem ev_tup1 {T : α → RP} [m : ∀ d, Mo (T d)] {d : α} (h : EvX te σ H (T d)) : EvX (tTup (tCons te tNil)) σ H (Tup T [d]) := fun H1 e _ q => h H1 e _ fun v H2 e2 r =>
  ⟨by show 1 ≤ sizeLine; decide, fun p hp => q _ _ (e2.trans (Ex.new hp)) ⟨p, [v], rfl, upd_same, .cons ((m d).mo (Ex.new hp) r) .nil⟩⟩
theorem ev_lst1 {T : α → RP} [m : ∀ d, Mo (T d)] {d : α} (h : EvX te σ H (T d)) : EvX (tLst (tCons te tNil)) σ H (Lst T [d]) := fun H1 e _ q => h H1 e _ fun v H2 e2 r =>
  ⟨by show 1 ≤ sizeLine; decide, fun p hp => q _ _ (e2.trans (Ex.new hp)) ⟨p, [v], rfl, upd_same, .cons ((m d).mo (Ex.new hp) r) .nil⟩⟩
theorem ev_lst0 {T : α → RP} : EvX (tLst tNil) σ H (Lst T []) := fun H1 _ _ q => ⟨by show 0 ≤ sizeLine; decide, fun p hp => q _ _ (Ex.new hp) ⟨p, [], rfl, upd_same, .nil⟩⟩
/-! tuples put together -/
theorem ev_catT {T : α → RP} [∀ d, Mo (T d)] {xs ys : List α} (ha : EvX ta σ H (Tup T xs)) (hb : EvX tb σ H (Tup T ys)) (hz : xs.length + ys.length ≤ 100000) : EvX (tOp (rCatA K) ta tb) σ H (Tup T (xs ++ ys)) :=
  ev_op ha hb fun x y H3 _ h1 h2 Q q => by
    obtain ⟨a, vs, rfl, e1, p1⟩ := h1
    obtain ⟨b, us, rfl, e2, p2⟩ := h2
    refine ⟨a, b, vs, us, rfl, rfl, SqT.of e1, SqT.of e2, Evl.sz_of (by rw [plen p1, plen p2]; exact hz), fun z => ?_, fun _ z => ?_, fun _ _ p hp => ?_⟩
    · subst z
      cases p1
      exact q _ H3 (Ex.refl H3) ⟨b, us, rfl, e2, p2⟩
    · subst z
      cases p2
      exact q _ H3 (Ex.refl H3) ⟨a, vs, rfl, e1, by rw [List.append_nil]; exact p1⟩
    · exact q _ _ (Ex.new hp) ⟨p, _, rfl, upd_same, pmo (Ex.new hp) (papp p1 p2)⟩
theorem ev_catL {T : α → RP} [∀ d, Mo (T d)] {xs ys : List α} (ha : EvX ta σ H (Lst T xs)) (hb : EvX tb σ H (Lst T ys)) (hz : xs.length + ys.length ≤ 100000) : EvX (tOp rCat ta tb) σ H (Lst T (xs ++ ys)) :=
  ev_op ha hb fun x y H3 _ h1 h2 Q q => by
    obtain ⟨a, vs, rfl, e1, p1⟩ := h1
    obtain ⟨b, us, rfl, e2, p2⟩ := h2
    exact ⟨a, b, vs, us, rfl, rfl, e1, e2, Evl.sz_of (by rw [plen p1, plen p2]; exact hz), fun p hp => q _ _ (Ex.new hp) ⟨p, _, rfl, upd_same, pmo (Ex.new hp) (papp p1 p2)⟩⟩
/-! in, not in -/
theorem inV_ints (x : Int) : ∀ l : List Int, inV (.int x) (l.map V.int) = l.contains x
  | [] => rfl
  | y :: l => by
    have ih := inV_ints x l
    unfold inV at ih ⊢
    rw [List.map_cons, List.any_cons, ih, List.contains_cons]
    have e : eqV (.int y) (.int x) = (x == y) := by
      show (y == x) = (x == y)
      exact Bool.beq_comm
    rw [e]
theorem flat_ints (l : List Int) : (l.map V.int).all flatV = true := by
  rw [List.all_map]
  exact List.all_eq_true.mpr fun _ _ => rfl
theorem ev_in {x : Int} {l : List Int} (ha : EvX ta σ H (nI x)) (hb : EvX tb σ H (Lot l)) : EvX (tOp (rIn K false) ta tb) σ H (nB (l.contains x)) :=
  ev_op ha hb fun u y H3 _ h1 h2 Q q => by
    cases h1
    obtain ⟨b, rfl, e⟩ := lot_raw h2
    exact ⟨b, _, rfl, .inr (SqT.of e), rfl, flat_ints l, q _ H3 (Ex.refl H3) (congrArg V.bl (inV_ints x l))⟩
theorem ev_notin {x : Int} {l : List Int} (ha : EvX ta σ H (nI x)) (hb : EvX tb σ H (Lot l)) : EvX (tOp (rIn K true) ta tb) σ H (nB (!l.contains x)) :=
  ev_op ha hb fun u y H3 _ h1 h2 Q q => by
    cases h1
    obtain ⟨b, rfl, e⟩ := lot_raw h2
    exact ⟨b, _, rfl, .inr (SqT.of e), rfl, flat_ints l, q _ H3 (Ex.refl H3) (congrArg V.bl (congrArg not (inV_ints x l)))⟩
/-! subscripts -/
theorem ev_ixT {T : α → RP} {ds : List α} {d : α} {n : Nat} (ha : EvX ta σ H (Tup T ds)) (hb : EvX tb σ H (nI j)) [∀ d, Mo (T d)] (hj : j = (n : Int)) (hd : ds[n]? = some d) : EvX (tOp (rIxT K) ta tb) σ H (T d) :=
  ev_op ha hb fun u y H3 _ h1 h2 Q q => by
    cases h2
    obtain ⟨a, vs, rfl, e, p⟩ := h1
    obtain ⟨x, hx, r⟩ := pget p hd
    exact ⟨a, vs, _, x, rfl, rfl, SqT.of e, at_of hj hx, q _ H3 (Ex.refl H3) r⟩
theorem cut_lo {α : Type} (xs : List V) (n : Nat) : cutV xs (some (n : Int)) none = xs.drop n := by
  unfold cutV
  rw [HT.sIx_nat, HT.sIx_none]
  by_cases h : n ≤ xs.length
  · rw [Nat.min_eq_left h]
    exact List.take_of_length_le (by rw [List.length_drop]; exact Nat.le_refl _)
  · rw [Nat.min_eq_right (by omega), List.drop_eq_nil_of_le (by omega : xs.length ≤ n), List.drop_eq_nil_of_le (Nat.le_refl _), List.take_nil]
theorem cut_hi {α : Type} (xs : List V) (n : Nat) : cutV xs none (some (n : Int)) = xs.take n := by
  unfold cutV
  rw [HT.sIx_nat, HT.sIx_none, Nat.sub_zero, List.drop_zero]
  by_cases h : n ≤ xs.length
  · rw [Nat.min_eq_left h]
  · rw [Nat.min_eq_right (by omega), List.take_of_length_le (Nat.le_refl _), List.take_of_length_le (by omega)]
theorem cut_all {xs : List V} {lo hi : Option Int} (h : HT.sIx xs.length 0 lo = 0 ∧ HT.sIx xs.length xs.length hi = xs.length) : cutV xs lo hi = xs := by
  unfold cutV
  rw [h.1, h.2, List.drop_zero, Nat.sub_zero, List.take_of_length_le (Nat.le_refl _)]
theorem ev_slT {T : α → RP} [∀ d, Mo (T d)] {ds ds' : List α} {tl th : TO} {lo hi : Option Int} (ha : EvX ta σ H (Tup T ds)) (hl : Evl.EvO tl σ H lo) (hh : Evl.EvO th σ H hi) (hc : ∀ vs H3, Paired (fun v d => T d H3 v) vs ds → Paired (fun v d => T d H3 v) (cutV vs lo hi) ds') :
    EvX (tSl (rSlA K) ta tl th) σ H (Tup T ds') := fun H1 e Q q => ha H1 e _ fun v H2 e2 r => hl H2 (e.trans e2) _ fun H3 e3 => hh H3 ((e.trans e2).trans e3) _ fun H4 e4 => by
  obtain ⟨a, vs, rfl, e1, p1⟩ := r
  have e34 := e3.trans e4
  refine ⟨a, vs, rfl, SqT.of (e34 a _ e1), fun z => ?_, fun _ p hp => ?_⟩
  · refine q _ H4 (e2.trans e34) ⟨a, vs, rfl, e34 a _ e1, ?_⟩
    have c := hc vs H4 (pmo e34 p1)
    rw [cut_all z] at c
    exact c
  · exact q _ _ ((e2.trans e34).trans (Ex.new hp)) ⟨p, _, rfl, upd_same, pmo (e34.trans (Ex.new hp)) (hc vs H2 p1)⟩
theorem eo_none : Evl.EvO tNoPart σ H none := Evl.eo_none
theorem eo_some (h : EvX te σ H (nI i)) : Evl.EvO (tPart te) σ H (some i) := fun H1 e _ q => h H1 e _ fun v H2 e2 r => ⟨i, r, q H2 e2⟩
/-! what is walked -/
theorem ei_tup {T : α → RP} [∀ d, Mo (T d)] {ds : List α} (h : EvX te σ H (Tup T ds)) : EiX (iTup K te) σ H T ds := fun H1 e Rk q => h H1 e _ fun v H2 e2 r => by
  obtain ⟨a, vs, rfl, e1, p⟩ := r
  refine ⟨a, rfl, ⟨vs, SqT.of e1⟩, q _ H2 e2 fun H3 e3 => ⟨fun i d hd => ?_, vs, SqT.of (e3 a _ e1), Nat.le_of_eq (plen p)⟩⟩
  obtain ⟨x, hx, rx⟩ := pget (pmo e3 p) hd
  refine ⟨⟨vs, x, SqT.of (e3 a _ e1), hx⟩, fun x' H4 y => ?_⟩
  obtain ⟨rfl, f⟩ := y
  have ex := f vs (SqT.of (e3 a _ e1))
  rw [hx] at ex
  cases ex
  exact ⟨Ex.refl _, rx⟩
theorem ei_list {T : α → RP} [∀ d, Mo (T d)] {ds : List α} (h : EvX te σ H (Lst T ds)) : EiX (iList K te) σ H T ds := fun H1 e Rk q => h H1 e _ fun v H2 e2 r => by
  obtain ⟨a, vs, rfl, e1, p⟩ := r
  refine ⟨a, rfl, ⟨vs, SqL.of e1⟩, q _ H2 e2 fun H3 e3 => ⟨fun i d hd => ?_, vs, SqL.of (e3 a _ e1), Nat.le_of_eq (plen p)⟩⟩
  obtain ⟨x, hx, rx⟩ := pget (pmo e3 p) hd
  refine ⟨⟨vs, x, SqL.of (e3 a _ e1), hx⟩, fun x' H4 y => ?_⟩
  obtain ⟨rfl, f⟩ := y
  have ex := f vs (SqL.of (e3 a _ e1))
  rw [hx] at ex
  cases ex
  exact ⟨Ex.refl _, rx⟩
theorem ei_rng1 {n : Int} (h : EvX te σ H (nI n)) (h1 : n ≤ 100000) (h0 : 0 ≤ n) : EiX (iRng1 (tCons te tNil)) σ H nI (rng n) := fun H1 e Rk q => h H1 e _ fun v H2 e2 r => by
  cases r
  have hl : (rng n).length = n.toNat := by unfold rng; rw [List.length_map, List.length_range]
  refine ⟨n, rfl, by omega, by omega, q _ H2 e2 fun H3 e3 => ⟨fun i d hd => ?_, by rw [hl]; exact Nat.le_refl _⟩⟩
  have hi : i < n.toNat := by rw [← hl]; exact (List.getElem?_eq_some_iff.mp hd).1
  refine ⟨hi, fun x H4 y => ?_⟩
  obtain ⟨rfl, rfl⟩ := y
  refine ⟨Ex.refl _, ?_⟩
  unfold rng at hd
  rw [List.getElem?_map, List.getElem?_range hi] at hd
  cases hd
  show V.int (0 + (i : Int)) = V.int (i : Int)
  rw [Int.zero_add]
theorem ei_rng2 {lo n : Int} {tb : TE} (h : EvX te σ H (nI lo)) (h' : EvX tb σ H (nI n)) (hl : lo = 1) (h1 : n ≤ 100000) (h0 : 0 ≤ n) : EiX (iRng2 (tCons te (tCons tb tNil))) σ H nI ((rng (n - 1)).map (· + 1)) := fun H1 e Rk q => h H1 e _ fun v H2 e2 r => h' H2 (e.trans e2) _ fun v' H2' e2' r' => by
  cases r
  cases r'
  subst hl
  have hl : ((rng (n - 1)).map (· + 1)).length = (n - 1).toNat := by unfold rng; rw [List.length_map, List.length_map, List.length_range]
  refine ⟨1, n, rfl, ⟨by omega, by omega, by omega, by omega⟩, q _ H2' (e2.trans e2') fun H3 e3 => ⟨fun i d hd => ?_, by rw [hl]; exact Nat.le_refl _⟩⟩
  have hi : i < (n - 1).toNat := by rw [← hl]; exact (List.getElem?_eq_some_iff.mp hd).1
  refine ⟨hi, fun x H4 y => ?_⟩
  obtain ⟨rfl, rfl⟩ := y
  refine ⟨Ex.refl _, ?_⟩
  unfold rng at hd
  rw [List.getElem?_map, List.getElem?_map, List.getElem?_range hi] at hd
  cases hd
  show V.int (1 + (i : Int)) = V.int ((i : Int) + 1)
  rw [Int.add_comm]
/-! list comprehensions -/
theorem filter_snoc {f : α → Bool} (ds : List α) (i : Nat) {d : α} (h : ds[i]? = some d) : (ds.take (i + 1)).filter f = (ds.take i).filter f ++ (if f d then [d] else []) := by
  rw [List.take_add_one, h, List.filter_append]
  show _ ++ List.filter f [d] = _
  rw [List.filter_cons]
  rfl
theorem ev_lc {wi : TI} {n : Nat} {vs : List Nat} {R : α → RP} {S : β → RP} [m : ∀ b, MoT (S b)] {ds : List α} (f : α → Bool) (g : α → β) (h : EiX wi σ H R ds) (hz : ds.length ≤ 50000) (hw : ∀ x, wipe ((wipe σ vs).set n (some x)) vs = wipe σ vs)
    (ht : ∀ x d H1, Ex H H1 → d ∈ ds → R d H1 x → EvT t ((wipe σ vs).set n (some x)) H1 (f d)) (he : ∀ x d H1, Ex H H1 → d ∈ ds → R d H1 x → f d = true → EvX te ((wipe σ vs).set n (some x)) H1 (S (g d))) :
    EvX (tLc wi (gName n) t te vs) σ H (Lst S ((ds.filter f).map g)) := fun H0 e0 Q q => h H0 e0 _ fun J H1 e1 wk => fun D hD => by
  refine ⟨fun i k H' => k = ds.length - i ∧ i ≤ ds.length ∧ Ex H1 H' ∧ ∃ acc, H' D = some (.lst acc) ∧ Paired (fun v d => S d H' v) acc (((ds.take i).filter f).map g), ⟨ds.length, by omega, Nat.zero_le _, Ex.new hD, [], upd_same, .nil⟩, ?_⟩
  rintro i k H' ⟨rfl, hi, eH, acc, hacc, pacc⟩
  have w := wk H' eH
  by_cases hlt : i < ds.length
  · refine .inr ?_
    have hd : ds[i]? = some ds[i] := List.getElem?_eq_getElem hlt
    have hm : ds[i] ∈ ds := List.getElem_mem hlt
    obtain ⟨w1, w2⟩ := w.1 i _ hd
    refine ⟨w1, fun H'' => Ex H1 H'' ∧ ∃ acc, H'' D = some (.lst acc) ∧ Paired (fun v d => S d H'' v) acc (((ds.take (i + 1)).filter f).map g), fun H'' z => ⟨ds.length - (i + 1), by omega, rfl, hlt, z⟩, fun x H4 y => ?_⟩
    obtain ⟨e4, r4⟩ := w2 x H4 y
    have eA : Ex H H4 := (e0.trans e1).trans (eH.trans e4)
    show wipe ((wipe σ vs).set n (some x)) vs = wipe σ vs ∧ _
    refine ⟨hw x, ht x _ H4 eA hm r4 H4 (Ex.refl _) _ fun H5 e5 => ?_⟩
    have fs := filter_snoc (f := f) ds i hd
    cases hf : f ds[i] with
    | false =>
      rw [if_neg (by decide)]
      rw [hf, if_neg (by decide), List.append_nil] at fs
      refine ⟨(eH.trans e4).trans e5, acc, e5 D _ (e4 D _ hacc), ?_⟩
      rw [fs]
      exact pmo (e4.trans e5) pacc
    | true =>
      rw [if_pos rfl]
      rw [hf, if_pos rfl] at fs
      refine he x _ H4 eA hm r4 hf H5 e5 _ fun y H6 e6 r6 => ?_
      have e46 := (e4.trans e5).trans e6
      have hD6 := e46 D _ hacc
      have e16 := eH.trans e46
      have eU : Ex H1 (upd H6 D (.lst (acc ++ [y]))) := e16.mut hD
      refine ⟨acc, hD6, ?_, eU, _, upd_same, ?_⟩
      · have l1 := plen pacc
        have l2 : (((ds.take i).filter f).map g).length ≤ ds.length := by
          rw [List.length_map]
          exact Nat.le_trans (List.length_filter_le _ _) (by rw [List.length_take]; exact Nat.min_le_right _ _)
        exact Evl.sz_lt (by omega)
      · rw [fs, List.map_append]
        exact papp (pmt ((ExT.of e46).trans (ExT.lst hD6)) pacc) (.cons ((m _).mt (ExT.lst hD6) r6) .nil)
  · refine .inl ?_
    have hi' : i = ds.length := by omega
    subst hi'
    refine ⟨w.2, q _ H' (e1.trans eH) ⟨D, acc, rfl, hacc, ?_⟩⟩
    rw [List.take_of_length_le (Nat.le_refl _)] at pacc
    exact pacc
end
end Rk
/-! the text of the program by places, the slots of each def -/
namespace Rk
open PySem PySem.Spec PyProof.Rows L2
def topS (i : Nat) : Stmt := PySem.Challenge.pw_roundowned_k56_whole_words_for_tables.main.body.getD i (.Pass ⟨0, 0, 0, 0⟩)
abbrev s_is_integer : Stmt := topS 6
abbrev s_is_within : Stmt := topS 7
abbrev s_are_ascending : Stmt := topS 8
abbrev s_is_order : Stmt := topS 9
abbrev s_is_lot : Stmt := topS 12
abbrev s_rest_of : Stmt := topS 13
abbrev s_lots_of : Stmt := topS 14
abbrev s_lot_by : Stmt := topS 17
abbrev s_check_folk : Stmt := topS 18
abbrev s_is_part : Stmt := topS 19
abbrev s_is_table_there : Stmt := topS 20
abbrev s_check_table : Stmt := topS 21
abbrev s_bits_of : Stmt := topS 22
abbrev s_all_of : Stmt := topS 23
abbrev s_with_person : Stmt := topS 24
abbrev s_less_person : Stmt := topS 25
abbrev s_up_of : Stmt := topS 26
abbrev s_table_from : Stmt := topS 27
abbrev s_rests_of : Stmt := topS 28
abbrev s_turned_of : Stmt := topS 29
abbrev s_is_round : Stmt := topS 30
abbrev s_kind_of : Stmt := topS 31
abbrev s_carries_there : Stmt := topS 32
abbrev s_kind : Stmt := topS 33
abbrev s_apart : Stmt := topS 34
abbrev s_open_lot : Stmt := topS 35
abbrev s_turned : Stmt := topS 37
abbrev s_renamed_by : Stmt := topS 39
abbrev s_renamed : Stmt := topS 40
abbrev s_law_pool : Stmt := topS 42
abbrev s_law_draw : Stmt := topS 43
abbrev s_law_mixed : Stmt := topS 44
abbrev s_law_lots : Stmt := topS 45
abbrev s_law_rest : Stmt := topS 46
abbrev s_law_part : Stmt := topS 47
abbrev s_law_meets : Stmt := topS 48
abbrev s_law_least : Stmt := topS 49
abbrev s_law_carries : Stmt := topS 50
abbrev s_law_all_carry : Stmt := topS 51
abbrev s_law_word : Stmt := topS 52
abbrev s_law_drawn_lot : Stmt := topS 53
abbrev s_law_any : Stmt := topS 54
abbrev s_law_round : Stmt := topS 55
abbrev s_law_full : Stmt := topS 56
abbrev s_law_drawn : Stmt := topS 57
abbrev s_law_size : Stmt := topS 58
abbrev s_law : Stmt := topS 59
theorem sc_is_integer : FnScope ["thing"] ["thing"] (defScope s_is_integer) := ⟨rfl, rfl, rfl, by decide +kernel, rfl, by decide +kernel, by decide +kernel⟩
theorem sc_is_within : FnScope ["thing", "least", "most"] ["thing", "least", "most"] (defScope s_is_within) := ⟨rfl, rfl, rfl, by decide +kernel, rfl, by decide +kernel, by decide +kernel⟩
theorem sc_are_ascending : FnScope ["things", "at"] ["things"] (defScope s_are_ascending) := ⟨rfl, rfl, rfl, by decide +kernel, rfl, by decide +kernel, by decide +kernel⟩
theorem sc_is_order : FnScope ["thing", "many", "number"] ["thing", "many"] (defScope s_is_order) := ⟨rfl, rfl, rfl, by decide +kernel, rfl, by decide +kernel, by decide +kernel⟩
theorem sc_is_lot : FnScope ["folk", "thing", "person"] ["folk", "thing"] (defScope s_is_lot) := ⟨rfl, rfl, rfl, by decide +kernel, rfl, by decide +kernel, by decide +kernel⟩
theorem sc_rest_of : FnScope ["folk", "lot", "person"] ["folk", "lot"] (defScope s_rest_of) := ⟨rfl, rfl, rfl, by decide +kernel, rfl, by decide +kernel, by decide +kernel⟩
theorem sc_lots_of : FnScope ["folk", "found", "person", "lot"] ["folk"] (defScope s_lots_of) := ⟨rfl, rfl, rfl, by decide +kernel, rfl, by decide +kernel, by decide +kernel⟩
theorem sc_lot_by : FnScope ["number", "person"] ["number"] (defScope s_lot_by) := ⟨rfl, rfl, rfl, by decide +kernel, rfl, by decide +kernel, by decide +kernel⟩
theorem sc_check_folk : FnScope ["thing"] ["thing"] (defScope s_check_folk) := ⟨rfl, rfl, rfl, by decide +kernel, rfl, by decide +kernel, by decide +kernel⟩
theorem sc_is_part : FnScope ["lot", "other", "person"] ["lot", "other"] (defScope s_is_part) := ⟨rfl, rfl, rfl, by decide +kernel, rfl, by decide +kernel, by decide +kernel⟩
theorem sc_is_table_there : FnScope ["folk", "thing", "lot", "at", "other"] ["folk", "thing"] (defScope s_is_table_there) := ⟨rfl, rfl, rfl, by decide +kernel, rfl, by decide +kernel, by decide +kernel⟩
theorem sc_check_table : FnScope ["folk", "thing"] ["folk", "thing"] (defScope s_check_table) := ⟨rfl, rfl, rfl, by decide +kernel, rfl, by decide +kernel, by decide +kernel⟩
theorem sc_bits_of : FnScope ["lot", "person"] ["lot"] (defScope s_bits_of) := ⟨rfl, rfl, rfl, by decide +kernel, rfl, by decide +kernel, by decide +kernel⟩
theorem sc_all_of : FnScope ["folk"] ["folk"] (defScope s_all_of) := ⟨rfl, rfl, rfl, by decide +kernel, rfl, by decide +kernel, by decide +kernel⟩
theorem sc_with_person : FnScope ["up", "person"] ["up", "person"] (defScope s_with_person) := ⟨rfl, rfl, rfl, by decide +kernel, rfl, by decide +kernel, by decide +kernel⟩
theorem sc_less_person : FnScope ["up", "person"] ["up", "person"] (defScope s_less_person) := ⟨rfl, rfl, rfl, by decide +kernel, rfl, by decide +kernel, by decide +kernel⟩
theorem sc_up_of : FnScope ["folk", "table", "up", "lot", "person"] ["folk", "table"] (defScope s_up_of) := ⟨rfl, rfl, rfl, by decide +kernel, rfl, by decide +kernel, by decide +kernel⟩
theorem sc_table_from : FnScope ["folk", "up", "more", "person", "least", "number"] ["folk", "up"] (defScope s_table_from) := ⟨rfl, rfl, rfl, by decide +kernel, rfl, by decide +kernel, by decide +kernel⟩
theorem sc_rests_of : FnScope ["folk", "up", "person"] ["folk", "up"] (defScope s_rests_of) := ⟨rfl, rfl, rfl, by decide +kernel, rfl, by decide +kernel, by decide +kernel⟩
theorem sc_turned_of : FnScope ["folk", "up"] ["folk", "up"] (defScope s_turned_of) := ⟨rfl, rfl, rfl, by decide +kernel, rfl, by decide +kernel, by decide +kernel⟩
theorem sc_is_round : FnScope ["folk", "up"] ["folk", "up"] (defScope s_is_round) := ⟨rfl, rfl, rfl, by decide +kernel, rfl, by decide +kernel, by decide +kernel⟩
theorem sc_kind_of : FnScope ["folk", "table", "up"] ["folk", "table"] (defScope s_kind_of) := ⟨rfl, rfl, rfl, by decide +kernel, rfl, by decide +kernel, by decide +kernel⟩
theorem sc_carries_there : FnScope ["table", "lot", "least"] ["table", "lot"] (defScope s_carries_there) := ⟨rfl, rfl, rfl, by decide +kernel, rfl, by decide +kernel, by decide +kernel⟩
theorem sc_kind : FnScope ["folk", "table"] ["folk", "table"] (defScope s_kind) := ⟨rfl, rfl, rfl, by decide +kernel, rfl, by decide +kernel, by decide +kernel⟩
theorem sc_apart : FnScope ["folk", "table", "at", "one", "other", "person"] ["folk", "table"] (defScope s_apart) := ⟨rfl, rfl, rfl, by decide +kernel, rfl, by decide +kernel, by decide +kernel⟩
theorem sc_open_lot : FnScope ["folk", "table", "lot"] ["folk", "table"] (defScope s_open_lot) := ⟨rfl, rfl, rfl, by decide +kernel, rfl, by decide +kernel, by decide +kernel⟩
theorem sc_turned : FnScope ["folk", "table"] ["folk", "table"] (defScope s_turned) := ⟨rfl, rfl, rfl, by decide +kernel, rfl, by decide +kernel, by decide +kernel⟩
theorem sc_renamed_by : FnScope ["table", "order", "places", "place", "person", "lot"] ["table", "order"] (defScope s_renamed_by) := ⟨rfl, rfl, rfl, by decide +kernel, rfl, by decide +kernel, by decide +kernel⟩
theorem sc_renamed : FnScope ["folk", "table", "order"] ["folk", "table", "order"] (defScope s_renamed) := ⟨rfl, rfl, rfl, by decide +kernel, rfl, by decide +kernel, by decide +kernel⟩
theorem sc_law_pool : FnScope ["_law_script", "_law_seed", "_law_cell"] ["_law_script"] (defScope s_law_pool) := ⟨rfl, rfl, rfl, by decide +kernel, rfl, by decide +kernel, by decide +kernel⟩
theorem sc_law_draw : FnScope ["_law_pool_here", "_law_many", "_law_cells", "_law_digit", "_law_mixed_here"] ["_law_pool_here", "_law_many"] (defScope s_law_draw) := ⟨rfl, rfl, rfl, by decide +kernel, rfl, by decide +kernel, by decide +kernel⟩
theorem sc_law_mixed : FnScope ["_law_pool_here", "_law_things", "_law_left", "_law_made", "_law_k"] ["_law_pool_here", "_law_things"] (defScope s_law_mixed) := ⟨rfl, rfl, rfl, by decide +kernel, rfl, by decide +kernel, by decide +kernel⟩
theorem sc_law_lots : FnScope ["_law_folk", "_law_found", "_law_person", "_law_lot"] ["_law_folk"] (defScope s_law_lots) := ⟨rfl, rfl, rfl, by decide +kernel, rfl, by decide +kernel, by decide +kernel⟩
theorem sc_law_rest : FnScope ["_law_folk", "_law_lot", "_law_person"] ["_law_folk", "_law_lot"] (defScope s_law_rest) := ⟨rfl, rfl, rfl, by decide +kernel, rfl, by decide +kernel, by decide +kernel⟩
theorem sc_law_part : FnScope ["_law_lot", "_law_other", "_law_person"] ["_law_lot", "_law_other"] (defScope s_law_part) := ⟨rfl, rfl, rfl, by decide +kernel, rfl, by decide +kernel, by decide +kernel⟩
theorem sc_law_meets : FnScope ["_law_lot", "_law_other", "_law_person"] ["_law_lot", "_law_other"] (defScope s_law_meets) := ⟨rfl, rfl, rfl, by decide +kernel, rfl, by decide +kernel, by decide +kernel⟩
theorem sc_law_least : FnScope ["_law_lots_here", "_law_found", "_law_lot", "_law_other"] ["_law_lots_here"] (defScope s_law_least) := ⟨rfl, rfl, rfl, by decide +kernel, rfl, by decide +kernel, by decide +kernel⟩
theorem sc_law_carries : FnScope ["_law_known", "_law_lot", "_law_least_here"] ["_law_known", "_law_lot"] (defScope s_law_carries) := ⟨rfl, rfl, rfl, by decide +kernel, rfl, by decide +kernel, by decide +kernel⟩
theorem sc_law_all_carry : FnScope ["_law_folk", "_law_known", "_law_lot"] ["_law_folk", "_law_known"] (defScope s_law_all_carry) := ⟨rfl, rfl, rfl, by decide +kernel, rfl, by decide +kernel, by decide +kernel⟩
theorem sc_law_word : FnScope ["_law_folk", "_law_known", "_law_carry", "_law_lot", "_law_other"] ["_law_folk", "_law_known"] (defScope s_law_word) := ⟨rfl, rfl, rfl, by decide +kernel, rfl, by decide +kernel, by decide +kernel⟩
theorem sc_law_drawn_lot : FnScope ["_law_pool_here", "_law_folk", "_law_lot", "_law_person"] ["_law_pool_here", "_law_folk"] (defScope s_law_drawn_lot) := ⟨rfl, rfl, rfl, by decide +kernel, rfl, by decide +kernel, by decide +kernel⟩
theorem sc_law_any : FnScope ["_law_pool_here", "_law_folk", "_law_way", "_law_k"] ["_law_pool_here", "_law_folk"] (defScope s_law_any) := ⟨rfl, rfl, rfl, by decide +kernel, rfl, by decide +kernel, by decide +kernel⟩
theorem sc_law_round : FnScope ["_law_pool_here", "_law_folk", "_law_found", "_law_k", "_law_lot", "_law_other"] ["_law_pool_here", "_law_folk"] (defScope s_law_round) := ⟨rfl, rfl, rfl, by decide +kernel, rfl, by decide +kernel, by decide +kernel⟩
theorem sc_law_full : FnScope ["_law_pool_here", "_law_folk", "_law_known", "_law_lot"] ["_law_pool_here", "_law_folk"] (defScope s_law_full) := ⟨rfl, rfl, rfl, by decide +kernel, rfl, by decide +kernel, by decide +kernel⟩
theorem sc_law_drawn : FnScope ["_law_pool_here", "_law_folk", "_law_way"] ["_law_pool_here", "_law_folk"] (defScope s_law_drawn) := ⟨rfl, rfl, rfl, by decide +kernel, rfl, by decide +kernel, by decide +kernel⟩
theorem sc_law_size : FnScope ["_law_pool_here"] ["_law_pool_here"] (defScope s_law_size) := ⟨rfl, rfl, rfl, by decide +kernel, rfl, by decide +kernel, by decide +kernel⟩
theorem sc_law : FnScope ["_law_script", "_law_pool_here", "_law_again", "_law_folk", "_law_known", "_law_word_here", "_law_order", "_law_pair", "_law_lot"] ["_law_script"] (defScope s_law) := ⟨rfl, rfl, rfl, by decide +kernel, rfl, by decide +kernel, by decide +kernel⟩
end Rk
/-! a def of the text where it stands; its promise; the text as a whole -/
namespace Rk
open PySem PySem.Spec PyProof.Rows L2
open Evl (Ex EvT)
structure FnAt (K : PySem.W.Frag) (mg : Str → Option Value) (x : Str) (st : Stmt) (ps : List Str) where
  f : Addr
  fd : FuncData
  F : FunD K x x (defArgs st) (defBody st) (defScope st) [] [] f fd
  b : Binds K fd ps []
  g : mg x = some (.ref f)
def lows : List Int := [6148914691236517205, 3689348814741910323, 1085102592571150095, 71777214294589695, 281470681808895, 4294967295]
structure Txt (K : PySem.W.Frag) (mg : Str → Option Value) where
  is_integer : FnAt K mg "is_integer" s_is_integer ["thing"]
  is_within : FnAt K mg "is_within" s_is_within ["thing", "least", "most"]
  are_ascending : FnAt K mg "are_ascending" s_are_ascending ["things"]
  is_order : FnAt K mg "is_order" s_is_order ["thing", "many"]
  is_lot : FnAt K mg "is_lot" s_is_lot ["folk", "thing"]
  rest_of : FnAt K mg "rest_of" s_rest_of ["folk", "lot"]
  lots_of : FnAt K mg "lots_of" s_lots_of ["folk"]
  lot_by : FnAt K mg "lot_by" s_lot_by ["number"]
  check_folk : FnAt K mg "check_folk" s_check_folk ["thing"]
  is_part : FnAt K mg "is_part" s_is_part ["lot", "other"]
  is_table_there : FnAt K mg "is_table_there" s_is_table_there ["folk", "thing"]
  check_table : FnAt K mg "check_table" s_check_table ["folk", "thing"]
  bits_of : FnAt K mg "bits_of" s_bits_of ["lot"]
  all_of : FnAt K mg "all_of" s_all_of ["folk"]
  with_person : FnAt K mg "with_person" s_with_person ["up", "person"]
  less_person : FnAt K mg "less_person" s_less_person ["up", "person"]
  up_of : FnAt K mg "up_of" s_up_of ["folk", "table"]
  table_from : FnAt K mg "table_from" s_table_from ["folk", "up"]
  rests_of : FnAt K mg "rests_of" s_rests_of ["folk", "up"]
  turned_of : FnAt K mg "turned_of" s_turned_of ["folk", "up"]
  is_round : FnAt K mg "is_round" s_is_round ["folk", "up"]
  kind_of : FnAt K mg "kind_of" s_kind_of ["folk", "table"]
  carries_there : FnAt K mg "carries_there" s_carries_there ["table", "lot"]
  kind : FnAt K mg "kind" s_kind ["folk", "table"]
  apart : FnAt K mg "apart" s_apart ["folk", "table"]
  open_lot : FnAt K mg "open_lot" s_open_lot ["folk", "table"]
  turned : FnAt K mg "turned" s_turned ["folk", "table"]
  renamed_by : FnAt K mg "renamed_by" s_renamed_by ["table", "order"]
  renamed : FnAt K mg "renamed" s_renamed ["folk", "table", "order"]
  law_pool : FnAt K mg "_law_pool" s_law_pool ["_law_script"]
  law_draw : FnAt K mg "_law_draw" s_law_draw ["_law_pool_here", "_law_many"]
  law_mixed : FnAt K mg "_law_mixed" s_law_mixed ["_law_pool_here", "_law_things"]
  law_lots : FnAt K mg "_law_lots" s_law_lots ["_law_folk"]
  law_rest : FnAt K mg "_law_rest" s_law_rest ["_law_folk", "_law_lot"]
  law_part : FnAt K mg "_law_part" s_law_part ["_law_lot", "_law_other"]
  law_meets : FnAt K mg "_law_meets" s_law_meets ["_law_lot", "_law_other"]
  law_least : FnAt K mg "_law_least" s_law_least ["_law_lots_here"]
  law_carries : FnAt K mg "_law_carries" s_law_carries ["_law_known", "_law_lot"]
  law_all_carry : FnAt K mg "_law_all_carry" s_law_all_carry ["_law_folk", "_law_known"]
  law_word : FnAt K mg "_law_word" s_law_word ["_law_folk", "_law_known"]
  law_drawn_lot : FnAt K mg "_law_drawn_lot" s_law_drawn_lot ["_law_pool_here", "_law_folk"]
  law_any : FnAt K mg "_law_any" s_law_any ["_law_pool_here", "_law_folk"]
  law_round : FnAt K mg "_law_round" s_law_round ["_law_pool_here", "_law_folk"]
  law_full : FnAt K mg "_law_full" s_law_full ["_law_pool_here", "_law_folk"]
  law_drawn : FnAt K mg "_law_drawn" s_law_drawn ["_law_pool_here", "_law_folk"]
  law_size : FnAt K mg "_law_size" s_law_size ["_law_pool_here"]
  law : FnAt K mg "law" s_law ["_law_script"]
  n_abs : mg "abs" = none
  n_all : mg "all" = none
  n_any : mg "any" = none
  n_bool : mg "bool" = none
  n_enumerate : mg "enumerate" = none
  n_int : mg "int" = none
  n_isinstance : mg "isinstance" = none
  n_len : mg "len" = none
  n_list : mg "list" = none
  n_range : mg "range" = none
  n_set : mg "set" = none
  n_sorted : mg "sorted" = none
  n_str : mg "str" = none
  n_sum : mg "sum" = none
  n_tuple : mg "tuple" = none
  tMOST : Tok
  gMOST : mg "MOST_FOLK" = some (.int 6 tMOST)
  aLOWS : Addr
  gLOWS : mg "LOWS" = some (.ref aLOWS)
  tLOWS : ∀ H : Hp, SqT K H aLOWS (lows.map V.int)
/-- a def's promise: what its arguments stand for, what must hold, what its answer stands for; all that is known stays -/
def spP {α : Type} (ok : α → Prop) (args : α → List RP) (res : α → RP) : Sp := fun vs H Q _ => ∃ a, ok a ∧ Paired (fun v R => R H v) vs (args a) ∧ ∀ v H', Ex H H' → res a H' v → Q v H'
theorem ev_call {α : Type} {ok : α → Prop} {args : α → List RP} {res : α → RP} {σ : L2.St} {H : Hp} {ta : TA} {E : XK} {a : α} (hk : ok a) (h : EaX ta σ H (args a)) : EvX (tCall (spP ok args res) [] E ta) σ H (res a) := fun H1 e Q q =>
  h H1 e _ fun vs H2 e2 p => ⟨a, hk, by rw [List.append_nil]; exact p, fun v H3 e3 r => q v H3 (e2.trans e3) r⟩
section
variable {X : Cx} {K : PySem.W.Frag} {mg : Str → Option Value} {base : Heap} {P : Program} {w : World} {j k : Nat} {x : Str} {st : Stmt} {ps : List Str} {sp : Sp} {p pos : Pos} {e : Expr} {es : List Expr} {t : TA}
theorem pe_cl (G : FnAt X.K X.mg x st ps) (O : FnOk X.prog X.w X.K X.mg X.base CX0 j G.f G.fd ps sp) (hr : Room k X.A) (hj : j ≤ k) (hg : Gl X x) (ha : PA X (e :: es) t) (hdb : (x == ("__debug__" : Str)) = false := by decide)
    (he : starEach (e :: es) X.env = (false, eval e X.env) :: starEach es X.env := by rfl) (hpl : (backTo pos (starEach es X.env)).any (·.1) = false := by rfl) : PE X (.Call (.Name x p) (e :: es) [] pos) (tCall sp [] E0 t) :=
  pe_call O (hr.mono hj) hg G.g G.F.kp G.b .nil pass0 ha hdb he hpl
/-- a def by its body -/
theorem fn_ok {N : List Str} (G : FnAt K mg x st ps) (S : FnScope N ps (defScope st)) (len : ∀ vs H Q E, sp vs H Q E → vs.length = ps.length)
    (h : ∀ (cdv : Value) (A : Around) (outer : List Env) (s : Shared) (H : Hp) (vs : List V) (Q : VK) (E : XK), Room k (A.deeper (envOfC x (defScope st) s.heap.objs.size G.f cdv)) → sp vs H Q E →
      ∃ t, PSs (cxOf CX0 P w K mg base N x (defScope st) G.f cdv A outer s H E).nox (defBody st) t ∧ t { nx := fun _ H' => Q .non H', rt := Q } (start N vs) H) : FnOk P w K mg base CX0 (k + 1) G.f G.fd ps sp :=
  G.F.ok S len fun cdv A outer s H vs Q E hr hsp => by
    obtain ⟨t, h1, h2⟩ := h cdv A outer s H vs Q E hr hsp
    exact ⟨t, h1.nox, h2⟩
theorem ppl {F : V → RP → Prop} : ∀ {xs : List V} {ys : List RP}, Paired F xs ys → xs.length = ys.length
  | _, _, .nil => rfl
  | _, _, .cons _ t => by rw [List.length_cons, List.length_cons, ppl t]
theorem fn_p {α : Type} {ok : α → Prop} {args : α → List RP} {res : α → RP} {N : List Str} (G : FnAt K mg x st ps) (S : FnScope N ps (defScope st)) (len : ∀ a, (args a).length = ps.length)
    (h : ∀ (cdv : Value) (A : Around) (outer : List Env) (s : Shared) (H : Hp) (E : XK) (a : α) (vs : List V), Room k (A.deeper (envOfC x (defScope st) s.heap.objs.size G.f cdv)) → ok a → Paired (fun v R => R H v) vs (args a) →
      ∃ t, PSs (cxOf CX0 P w K mg base N x (defScope st) G.f cdv A outer s H E).nox (defBody st) t ∧ ∀ Q : VK, (∀ v H', Ex H H' → res a H' v → Q v H') → t { nx := fun _ H' => Q .non H', rt := Q } (start N vs) H) :
    FnOk P w K mg base CX0 (k + 1) G.f G.fd ps (spP ok args res) :=
  fn_ok G S (fun vs H Q E ⟨a, _, p, _⟩ => (ppl p).trans (len a)) fun cdv A outer s H vs Q E hr ⟨a, hk, p, q⟩ => by
    obtain ⟨t, h1, h2⟩ := h cdv A outer s H E a vs hr hk p
    exact ⟨t, h1, h2 Q q⟩
end
/-! rules, the written part told -/
section
variable {X : Cx} {K : PySem.W.Frag}
theorem opK {f : Value → Value → Sem Value} {r : PySem.W.Frag → R2} (o : OpR X f (r X.K)) (h : X.K = K := by rfl) : OpR X f (r K) := h ▸ o
theorem ixK {r : PySem.W.Frag → R2} (o : IxR X (r X.K)) (h : X.K = K := by rfl) : IxR X (r K) := h ▸ o
theorem crK {f : Value} {r : PySem.W.Frag → List V → Hp → VK → Prop} (o : CallR X f (r X.K)) (h : X.K = K := by rfl) : CallR X f (r K) := h ▸ o
theorem slK {r : PySem.W.Frag → V → Option Int → Option Int → Hp → VK → Prop} (o : SlR X (r X.K)) (h : X.K = K := by rfl) : SlR X (r K) := h ▸ o
theorem piK {tg e : Expr} {r : PySem.W.Frag → TI} (o : PI X tg e (r X.K)) (h : X.K = K := by rfl) : PI X tg e (r K) := h ▸ o
theorem pg_tupK {es : List Expr} {k : Nat} {t : TGs} {n : Nat} {pos : Pos} (hc : X.calm = true) (h : PGs X es t) (hn : (assignEach es X.env).length = n := by rfl) (hst : (assignEach es X.env).findIdx? (·.1) = none := by rfl) (e : X.K = K := by rfl) : PG X (.Tuple es k pos) (gTup K n t) := e ▸ pg_tup hc h hn hst
/-- a value's truth as a test -/
def tTru (K : PySem.W.Frag) (ta : TE) : TT := fun σ H Q => ta σ H fun x H' => ∃ k, TruV K x H' k ∧ Q k H'
theorem pt_tru {a : Expr} {ta : TE} (ha : PE X a ta) (he : ∀ whole, isTrue a X.env whole = (do let v ← whole; standAt a.pos; holding [v] (truthy v))) (h : X.K = K := by rfl) : PT X a (tTru K ta) := h ▸ pt_truth ha he
theorem hu2 {k : Nat} {A : Around} (hr : Room k A) : A.units + 2 < cLine := by
  have := hr.units
  omega
theorem hu3 {k : Nat} {A : Around} (hr : Room k A) : A.units + 3 < cLine := by
  have := hr.units
  omega
theorem units65 {k : Nat} {A : Around} (hr : Room k A) : A.units + 65 < cLine := by
  have := hr.un
  omega
theorem op_inS : OpR X (compareOp .In) (rIn X.K false) := op_in_seq
theorem op_niS : OpR X (compareOp .NotIn) (rIn X.K true) := op_notIn_seq
theorem cr_tuple : CallR X (.type "tuple") (rTupX X.K) := call_tuple_of
theorem cr_list : CallR X (.type "list") (rLstX X.K) := call_list_of
theorem cr_len : CallR X (.builtin "len") (rLenX X.K) := call_len
end
/-! statements -/
section
variable {σ : L2.St} {H : Hp} {te : TE} {t : TT} {tu tw tz : TS} {R : RP} {D : Ends}
theorem s_ret (h : EvX te σ H R) (k : ∀ v H1, Ex H H1 → R H1 v → D.rt v H1) : tRet te D σ H := h H (Ex.refl H) _ k
theorem q_set {i : Nat} (h : EvX te σ H R) (k : ∀ v H1, Ex H H1 → R H1 v → tz D (σ.set i (some v)) H1) : tSeq (tAsg te (gName i)) tz D σ H := h H (Ex.refl H) _ k
theorem s_set {i : Nat} (h : EvX te σ H R) (k : ∀ v H1, Ex H H1 → R H1 v → D.nx (σ.set i (some v)) H1) : tAsg te (gName i) D σ H := h H (Ex.refl H) _ k
/-- an if that is not taken -/
theorem q_skip (h : EvT t σ H false) (k : ∀ H1, Ex H H1 → tz D σ H1) : tSeq (tIfS t tu tNext) tz D σ H := h H (Ex.refl H) _ fun H1 e => k H1 e
theorem s_skip (h : EvT t σ H false) (k : ∀ H1, Ex H H1 → D.nx σ H1) : tIfS t tu tNext D σ H := h H (Ex.refl H) _ fun H1 e => k H1 e
theorem q_if {b : Bool} (h : EvT t σ H b) (h1 : b = true → ∀ H1, Ex H H1 → tu { D with nx := tz D } σ H1) (h2 : b = false → ∀ H1, Ex H H1 → tz D σ H1) : tSeq (tIfS t tu tNext) tz D σ H := Evl.q_when h h1 h2
theorem s_if {b : Bool} (h : EvT t σ H b) (h1 : b = true → ∀ H1, Ex H H1 → tu D σ H1) (h2 : b = false → ∀ H1, Ex H H1 → D.nx σ H1) : tIfS t tu tNext D σ H := Evl.s_when h h1 h2
/-- a loop whose body leaves what is known: Pv by the turn, the slots, the heap -/
theorem s_for {α : Type} {wi : TI} {g : TG} {R : α → RP} {ds : List α} (h : EiX wi σ H R ds)
    (k : ∀ H2, Ex H H2 → ∃ Pv : Nat → L2.St → Hp → Prop, Pv 0 σ H2 ∧ (∀ i σ' H' H'', Ex H' H'' → Pv i σ' H' → Pv i σ' H'') ∧
      (∀ i d x σ' H', ds[i]? = some d → Ex H2 H' → Pv i σ' H' → R d H' x → g x σ' H' fun σ3 H3 => tu { D with nx := fun σ4 H4 => Ex H2 H4 ∧ Pv (i + 1) σ4 H4, ct := fun σ4 H4 => Ex H2 H4 ∧ Pv (i + 1) σ4 H4, bk := D.nx } σ3 H3) ∧
      (∀ σ' H', Ex H2 H' → Pv ds.length σ' H' → D.nx σ' H')) : tFor wi g tu D σ H := h H (Ex.refl H) _ fun J H2 e2 wk => by
  obtain ⟨Pv, p0, pm, hs, hd⟩ := k H2 e2
  refine ⟨fun i m σ' H' => m = ds.length - i ∧ i ≤ ds.length ∧ Ex H2 H' ∧ Pv i σ' H', ⟨ds.length, by omega, Nat.zero_le _, Ex.refl _, p0⟩, ?_⟩
  rintro i m σ' H' ⟨rfl, hi, eH, p⟩
  have w := wk H' eH
  by_cases hlt : i < ds.length
  · have hd' : ds[i]? = some ds[i] := List.getElem?_eq_getElem hlt
    obtain ⟨w1, w2⟩ := w.1 i _ hd'
    refine .inr ⟨w1, fun σ4 H4 => Ex H2 H4 ∧ Pv (i + 1) σ4 H4, fun σ4 H4 z => ⟨ds.length - (i + 1), by omega, rfl, hlt, z⟩, fun x H4 y => ?_⟩
    obtain ⟨e4, r4⟩ := w2 x H4 y
    exact hs i _ x σ' H4 hd' (eH.trans e4) (pm i σ' H' H4 e4 p) r4
  · have hi' : i = ds.length := by omega
    subst hi'
    exact .inl ⟨w.2, hd σ' H' eH p⟩
theorem q_for {α : Type} {wi : TI} {g : TG} {R : α → RP} {ds : List α} (h : EiX wi σ H R ds)
    (k : ∀ H2, Ex H H2 → ∃ Pv : Nat → L2.St → Hp → Prop, Pv 0 σ H2 ∧ (∀ i σ' H' H'', Ex H' H'' → Pv i σ' H' → Pv i σ' H'') ∧
      (∀ i d x σ' H', ds[i]? = some d → Ex H2 H' → Pv i σ' H' → R d H' x → g x σ' H' fun σ3 H3 => tu { D with nx := fun σ4 H4 => Ex H2 H4 ∧ Pv (i + 1) σ4 H4, ct := fun σ4 H4 => Ex H2 H4 ∧ Pv (i + 1) σ4 H4, bk := tz D } σ3 H3) ∧
      (∀ σ' H', Ex H2 H' → Pv ds.length σ' H' → tz D σ' H')) : tSeq (tFor wi g tu) tz D σ H := s_for (D := { D with nx := tz D }) h k
end
end Rk
/-! lots and tables, in plain words -/
namespace Rk
open L2
def IsLot (n : Int) (l : List Int) : Prop := l.Pairwise (· < ·) ∧ ∀ p ∈ l, 0 ≤ p ∧ p < n
def partB (l m : List Int) : Bool := l.all fun p => m.contains p
def meetsB (l m : List Int) : Bool := l.any fun p => m.contains p
def carB (t : List (List Int)) (l : List Int) : Bool := t.any fun a => partB a l
structure IsTab (n : Int) (t : List (List Int)) : Prop where
  lots : ∀ l ∈ t, IsLot n l
  asc : t.Pairwise fun x y => HT.lexLt x y = true
  anti : t.Pairwise fun x y => partB x y = false ∧ partB y x = false
end Rk
/-! the small defs -/
namespace Rk
open PySem PySem.Spec PyProof.Rows L2
open Evl (Ex EvT)
def restL (n : Int) (l : List Int) : List Int := (rng n).filter fun p => !l.contains p
section
variable {K : PySem.W.Frag} {σ : L2.St} {H : Hp} {ta tb te : TE}
theorem ev_isi {R : RP} {m n : String} {b : Bool} (h : EvX ta σ H R) (hb : EvX tb σ H (Is (.ty n))) (ty : ∀ v H2, R H2 v → TyX K H2 v (.type m)) [Mo R] (e : kitB m n = some b) : EvX (tCB (rIsi K) (tCons ta (tCons tb tNil))) σ H (nB b) :=
  ev_cb (ea_cons h (ea1 hb)) fun vs H2 _ p Q q => by
    obtain ⟨v, w, rfl, r1, r2⟩ := ptwo p
    cases r2
    exact ⟨v, .ty n, .type m, .type n, b, rfl, .ty n, ty v H2 r1, kit_ty e, q _ H2 (Ex.refl H2) rfl⟩
theorem ty_int {i : Int} : ∀ v H2, nI i H2 v → TyX K H2 v (.type "int") := fun v H2 r => by
  cases r
  exact .base (.int i)
theorem ty_str {z : Str} : ∀ v H2, Is (.str z) H2 v → TyX K H2 v (.type "str") := fun v H2 r => by
  cases r
  exact .base (.str z)
theorem ty_tup {α : Type} {R : α → RP} {ds : List α} : ∀ v H2, Tup R ds H2 v → TyX K H2 v (.type "tuple") := fun v H2 r => by
  obtain ⟨a, vs, rfl, e, _⟩ := r
  exact .base (.tup e)
end
theorem mo {R : RP} {H H' : Hp} {v : V} [m : Mo R] (e : Ex H H') (r : R H v) : R H' v := m.mo e r
theorem filt_true {α : Type} : ∀ l : List α, (l.filter fun _ => true) = l
  | [] => rfl
  | x :: l => by rw [List.filter_cons, if_pos rfl, filt_true l]
theorem all_id {α : Type} (g : α → Bool) (l : List α) : (l.map g).all id = l.all g := by
  rw [List.all_map]
  rfl
theorem any_id {α : Type} (g : α → Bool) (l : List α) : (l.map g).any id = l.any g := by
  rw [List.any_map]
  rfl
theorem all_yes {α : Type} (l : List α) : (l.map fun _ => true).all id = true := by
  rw [all_id]
  exact List.all_eq_true.mpr fun _ _ => rfl
/-- a comprehension without tests -/
theorem ev_lcm {α β : Type} {σ : L2.St} {H : Hp} {te : TE} {wi : TI} {n : Nat} {vs : List Nat} {R : α → RP} {S : β → RP} [m : ∀ b, MoT (S b)] {ds : List α} (g : α → β) (h : EiX wi σ H R ds) (hz : ds.length ≤ 50000) (hw : ∀ x, wipe ((wipe σ vs).set n (some x)) vs = wipe σ vs)
    (he : ∀ x d H1, Ex H H1 → d ∈ ds → R d H1 x → EvX te ((wipe σ vs).set n (some x)) H1 (S (g d))) : EvX (tLc wi (gName n) tYes te vs) σ H (Lst S (ds.map g)) := by
  have z := ev_lc (t := tYes) (fun _ => true) g h hz hw (fun _ _ _ _ _ _ => et_yes) fun x d H1 e hd r _ => he x d H1 e hd r
  rw [filt_true] at z
  exact z
/-- a comprehension that keeps the items that pass -/
theorem ev_lcf {α : Type} {σ : L2.St} {H : Hp} {te : TE} {t : TT} {wi : TI} {n : Nat} {vs : List Nat} {R : α → RP} [m : ∀ b, MoT (R b)] {ds : List α} (f : α → Bool) (h : EiX wi σ H R ds) (hz : ds.length ≤ 50000) (hw : ∀ x, wipe ((wipe σ vs).set n (some x)) vs = wipe σ vs)
    (ht : ∀ x d H1, Ex H H1 → d ∈ ds → R d H1 x → EvT t ((wipe σ vs).set n (some x)) H1 (f d)) (he : ∀ x d H1, Ex H H1 → d ∈ ds → R d H1 x → f d = true → EvX te ((wipe σ vs).set n (some x)) H1 (R d)) : EvX (tLc wi (gName n) t te vs) σ H (Lst R (ds.filter f)) := by
  have z := ev_lc (t := t) f (fun d => d) h hz hw ht he
  rw [show (ds.filter f).map (fun d => d) = ds.filter f from List.map_id _] at z
  exact z
theorem lot_len {n : Int} {l : List Int} (h : IsLot n l) (h6 : n ≤ 6) : l.length ≤ 6 := by
  have key : ∀ (l : List Int) (m : Int), l.Pairwise (· < ·) → (∀ p ∈ l, m ≤ p ∧ p < n) → (l.length : Int) ≤ max 0 (n - m) := by
    intro l
    induction l with
    | nil => intro m _ _; simp; omega
    | cons x l ih =>
      intro m hp hb
      have hx := hb x List.mem_cons_self
      have h2 := ih (x + 1) (List.pairwise_cons.mp hp).2 fun p hq => ⟨(List.pairwise_cons.mp hp).1 p hq, (hb p (List.mem_cons_of_mem _ hq)).2⟩
      rw [List.length_cons]
      omega
  have k := key l 0 h.1 h.2
  omega
theorem rng_len (n : Int) : (rng n).length = n.toNat := by
  unfold rng
  rw [List.length_map, List.length_range]
theorem mem_rng {n p : Int} : p ∈ rng n ↔ 0 ≤ p ∧ p < n := by
  unfold rng
  rw [List.mem_map]
  constructor
  · rintro ⟨a, ha, rfl⟩
    have := List.mem_range.mp ha
    omega
  · intro h
    exact ⟨p.toNat, List.mem_range.mpr (by omega), by omega⟩
theorem rng_asc (n : Int) : (rng n).Pairwise (· < ·) := by
  unfold rng
  exact List.pairwise_map.mpr (List.pairwise_lt_range.imp fun h => by omega)
theorem rest_lot (n : Int) (l : List Int) : IsLot n (restL n l) := ⟨(rng_asc n).filter _, fun p hp => mem_rng.mp (List.mem_filter.mp hp).1⟩
theorem mem_rest {n p : Int} {l : List Int} : p ∈ restL n l ↔ (0 ≤ p ∧ p < n) ∧ p ∉ l := by
  unfold restL
  rw [List.mem_filter, mem_rng]
  simp
section
variable {P : Program} {w : World} {K : PySem.W.Frag} {mg : Str → Option Value} {base : Heap}
theorem ok_is_integer (T : Txt K mg) : FnOk P w K mg base CX0 1 T.is_integer.f T.is_integer.fd ["thing"] (spP (fun _ : Int => True) (fun i => [nI i]) fun _ => nB true) :=
  fn_p T.is_integer sc_is_integer (fun _ => rfl) fun cdv A outer s H E i vs hr _ p => by
    obtain ⟨v, rfl, r⟩ := pone p
    refine ⟨_, (pss_one (ps_ret (pe_and (pe_callB (crK (K := K) (r := rIsi) call_isi) (by rfl) T.n_isinstance (by decide +kernel) (pa_cons (pv 0) (pa_cons (pe_bltn (v := .ty "int") (by rfl) T.n_int (by decide +kernel) rfl) pa_nil))) (pe_one (pe_not (pe_callB (crK (K := K) (r := rIsi) call_isi) (by rfl) T.n_isinstance (by decide +kernel) (pa_cons (pv 0) (pa_cons (pe_bltn (v := .ty "bool") (by rfl) T.n_bool (by decide +kernel) rfl) pa_nil)))))))), fun Q q => ?_⟩
    exact s_ret (ev_andV (a := true) (b := true) (ev_isi (ev_var rfl r) ev_c ty_int (by decide +kernel)) fun _ => ev_notV (a := false) (ev_isi (ev_var rfl r) ev_c ty_int (by decide +kernel))) q
theorem ok_is_within (T : Txt K mg) : FnOk P w K mg base CX0 2 T.is_within.f T.is_within.fd ["thing", "least", "most"] (spP (fun a : Int × Int × Int => a.2.1 ≤ a.1 ∧ a.1 ≤ a.2.2) (fun a => [nI a.1, nI a.2.1, nI a.2.2]) fun _ => nB true) :=
  fn_p T.is_within sc_is_within (fun _ => rfl) fun cdv A outer s H E a vs hr hk p => by
    obtain ⟨v, l, m, rfl, r1, r2, r3⟩ := pthree p
    refine ⟨_, (pss_one (ps_ret (pe_and (pe_cl T.is_integer (ok_is_integer T) hr (by decide) (by rfl) (pa_cons (pv 0) pa_nil)) (pe_one (pe_chain op_le op_le (pv 1) (pv 0) (pv 2)))))), fun Q q => ?_⟩
    exact s_ret (ev_andV (a := true) (b := true) (ev_call (a := a.1) trivial (ea1 (ev_var rfl r1))) fun _ => ev_chain (p := fun i j => decide (i ≤ j)) (p' := fun i j => decide (i ≤ j)) (ev_var rfl r2) (ev_var rfl r1) (ev_var rfl r3) rfl rfl (by rw [decide_eq_true hk.1, decide_eq_true hk.2]; rfl)) q
theorem ok_are_ascending (T : Txt K mg) : FnOk P w K mg base CX0 1 T.are_ascending.f T.are_ascending.fd ["things"] (spP (fun a : List Int ⊕ List (List Int) => match a with
      | .inl l => l.length ≤ 1000 ∧ l.Pairwise (· < ·)
      | .inr t => t.length ≤ 1000 ∧ t.Pairwise fun x y => HT.lexLt x y = true) (fun a => match a with
      | .inl l => [Lot l]
      | .inr t => [Tab t]) fun _ => nB true) :=
  fn_p T.are_ascending sc_are_ascending (fun a => by cases a <;> rfl) fun cdv A outer s H E a vs hr hk p => by
    have bd : ∀ {m : Nat} {d : Int}, d ∈ (rng ((m : Int) - 1)).map (· + 1) → ∃ i : Nat, d = (i : Int) + 1 ∧ i + 1 < m := by
      intro m d hd
      obtain ⟨i, hi, rfl⟩ := List.mem_map.mp hd
      have := mem_rng.mp hi
      exact ⟨i.toNat, by omega, by omega⟩
    cases a with
    | inl l =>
      obtain ⟨v, rfl, r⟩ := pone p
      refine ⟨_, (pss_one (ps_ret (pe_callB (crK (K := K) (r := rAll) (cr_all rfl)) (by rfl) T.n_all (by decide +kernel) (pa_cons (pe_lc (own := [("at", 1)]) rfl sc_are_ascending.nd (pi_range2 (by rfl) T.n_range (pa_cons pe_int (pa_cons (pe_callB (crK (K := K) (r := rLenX) cr_len) (by rfl) T.n_len (by decide +kernel) (pa_cons (pv 0) pa_nil)) pa_nil))) (blkOk_by (own := [("at", 1)]) (N := ["things", "at"]) (sc := defScope s_are_ascending) (by decide +kernel)) (fun _ _ _ _ _ => pg_name (i := 1) sc_are_ascending.nd rfl (Or.inl rfl)) (fun _ _ _ _ _ => pts_nil) (fun _ _ _ _ _ => (pe_cmpR op_lt (pe_ix (ixK (K := K) (r := rIxT) ix_tup) (pv 0) (pe_op op_sub (pv 1) pe_int) (fun _ _ => rfl)) (pe_ix (ixK (K := K) (r := rIxT) ix_tup) (pv 0) (pv 1) (fun _ _ => rfl)) (nomark _)))) pa_nil)))), fun Q q => ?_⟩
      refine s_ret ((ev_all (ev_lcm (fun _ => true) (ei_rng2 ev_c (ev_lenT (ev_var rfl r)) rfl (by have := hk.1; omega) (by omega)) (by rw [List.length_map, rng_len]; have := hk.1; omega) (fun _ => rfl) fun x d H1 e hd rd => ?_)).eqB (all_yes _)) q
      obtain ⟨i, rfl, hi⟩ := bd hd
      have h1 : l[i]? = some l[i] := List.getElem?_eq_getElem (by omega)
      have h2 : l[i + 1]? = some l[i + 1] := List.getElem?_eq_getElem hi
      refine ev_i0 (ev_ixT (T := nI) (ev_var rfl (mo e r)) (ev_i0 (ev_var rfl rd) ev_c rfl) (by omega) h1) (ev_ixT (T := nI) (ev_var rfl (mo e r)) (ev_var rfl rd) (by omega) h2) ?_
      rw [decide_eq_true (List.pairwise_iff_getElem.mp hk.2 i (i + 1) (by omega) hi (by omega))]
    | inr l =>
      obtain ⟨v, rfl, r⟩ := pone p
      refine ⟨_, (pss_one (ps_ret (pe_callB (crK (K := K) (r := rAll) (cr_all rfl)) (by rfl) T.n_all (by decide +kernel) (pa_cons (pe_lc (own := [("at", 1)]) rfl sc_are_ascending.nd (pi_range2 (by rfl) T.n_range (pa_cons pe_int (pa_cons (pe_callB (crK (K := K) (r := rLenX) cr_len) (by rfl) T.n_len (by decide +kernel) (pa_cons (pv 0) pa_nil)) pa_nil))) (blkOk_by (own := [("at", 1)]) (N := ["things", "at"]) (sc := defScope s_are_ascending) (by decide +kernel)) (fun _ _ _ _ _ => pg_name (i := 1) sc_are_ascending.nd rfl (Or.inl rfl)) (fun _ _ _ _ _ => pts_nil) (fun _ _ _ _ _ => (pe_cmpR (opK (K := K) (r := rLtT) (op_ltT hr.units0)) (pe_ix (ixK (K := K) (r := rIxT) ix_tup) (pv 0) (pe_op op_sub (pv 1) pe_int) (fun _ _ => rfl)) (pe_ix (ixK (K := K) (r := rIxT) ix_tup) (pv 0) (pv 1) (fun _ _ => rfl)) (nomark _)))) pa_nil)))), fun Q q => ?_⟩
      refine s_ret ((ev_all (ev_lcm (fun _ => true) (ei_rng2 ev_c (ev_lenT (ev_var rfl r)) rfl (by have := hk.1; omega) (by omega)) (by rw [List.length_map, rng_len]; have := hk.1; omega) (fun _ => rfl) fun x d H1 e hd rd => ?_)).eqB (all_yes _)) q
      obtain ⟨i, rfl, hi⟩ := bd hd
      have h1 : l[i]? = some l[i] := List.getElem?_eq_getElem (by omega)
      have h2 : l[i + 1]? = some l[i + 1] := List.getElem?_eq_getElem hi
      refine ev_op (ev_ixT (T := Lot) (ev_var rfl (mo e r)) (ev_i0 (ev_var rfl rd) ev_c rfl) (by omega) h1) (ev_ixT (T := Lot) (ev_var rfl (mo e r)) (ev_var rfl rd) (by omega) h2) fun x y H3 _ rx ry Q' q' => ?_
      obtain ⟨a, rfl, ea⟩ := lot_raw rx
      obtain ⟨b, rfl, eb⟩ := lot_raw ry
      refine ⟨a, b, _, _, rfl, rfl, SqT.of ea, SqT.of eb, q' _ H3 (Ex.refl H3) ?_⟩
      rw [List.pairwise_iff_getElem.mp hk.2 i (i + 1) (by omega) hi (by omega)]
      rfl
theorem ok_is_lot (T : Txt K mg) : FnOk P w K mg base CX0 3 T.is_lot.f T.is_lot.fd ["folk", "thing"] (spP (fun a : Int × List Int => a.1 ≤ 6 ∧ IsLot a.1 a.2) (fun a => [nI a.1, Lot a.2]) fun _ => nB true) :=
  fn_p T.is_lot sc_is_lot (fun _ => rfl) fun cdv A outer s H E a vs hr hk p => by
    obtain ⟨v, u, rfl, r1, r2⟩ := ptwo p
    have hl := lot_len hk.2 hk.1
    refine ⟨_, (pss_cons (ps_if (PW.pt (pw_or (pt_not (pt_val (pe_callB (crK (K := K) (r := rIsi) call_isi) (by rfl) T.n_isinstance (by decide +kernel) (pa_cons (pv 1) (pa_cons (pe_bltn (v := .ty "tuple") (by rfl) T.n_tuple (by decide +kernel) rfl) pa_nil))))) (pw_or1 (pt_not (pt_val (pe_callB (crK (K := K) (r := rAll) (cr_all rfl)) (by rfl) T.n_all (by decide +kernel) (pa_cons (pe_lc (own := [("person", 2)]) rfl sc_is_lot.nd (piK (K := K) (r := fun K => iTup K _) (pi_tup (pv 1))) (blkOk_by (own := [("person", 2)]) (N := ["folk", "thing", "person"]) (sc := defScope s_is_lot) (by decide +kernel)) (fun _ _ _ _ _ => pg_name (i := 2) sc_is_lot.nd rfl (Or.inl rfl)) (fun _ _ _ _ _ => pts_nil) (fun _ _ _ _ _ => (pe_cl T.is_within (ok_is_within T) hr (by decide) (by rfl) (pa_cons (pv 2) (pa_cons pe_int (pa_cons (pe_op op_sub (pv 0) pe_int) pa_nil)))))) pa_nil))))))) (pss_one (ps_ret pe_bl)) pss_nil)
    (pss_one (ps_ret (pe_cl T.are_ascending (ok_are_ascending T) hr (by decide) (by rfl) (pa_cons (pv 1) pa_nil))))), fun Q q => ?_⟩
    refine q_skip (Evl.et_or (a := false) (b := false) (Evl.et_not (a := true) (et_B (ev_isi (ev_var rfl r2) ev_c ty_tup (by decide +kernel)))) fun _ => Evl.et_not (a := true) (et_B ((ev_all (ev_lcm (fun _ => true) (ei_tup (ev_var rfl r2)) (by omega) (fun _ => rfl) fun x d H1 e hd rd => ?_)).eqB (all_yes _)))) fun H1 e => ?_
    · exact ev_call (a := (d, 0, a.1 - 1)) ⟨(hk.2.2 d hd).1, Int.le_sub_one_of_lt (hk.2.2 d hd).2⟩ (ea_cons (ev_var rfl rd) (ea_cons ev_c (ea1 (ev_i0 (ev_var rfl (mo e r1)) ev_c rfl))))
    · exact s_ret (ev_call (a := (Sum.inl a.2 : List Int ⊕ List (List Int))) (show a.2.length ≤ 1000 ∧ a.2.Pairwise (· < ·) from ⟨by omega, hk.2.1⟩) (ea1 (ev_var rfl (mo e r2)))) fun v H2 e2 r => q v H2 (e.trans e2) r
theorem ok_rest_of (T : Txt K mg) : FnOk P w K mg base CX0 1 T.rest_of.f T.rest_of.fd ["folk", "lot"] (spP (fun a : Int × List Int => 0 ≤ a.1 ∧ a.1 ≤ 6) (fun a => [nI a.1, Lot a.2]) fun a => Lot (restL a.1 a.2)) :=
  fn_p T.rest_of sc_rest_of (fun _ => rfl) fun cdv A outer s H E a vs hr hk p => by
    obtain ⟨v, u, rfl, r1, r2⟩ := ptwo p
    refine ⟨_, (pss_one (ps_ret (pe_callTy (crK (K := K) (r := rTupX) cr_tuple) (by rfl) T.n_tuple (by decide +kernel) (pa_cons (pe_lc (own := [("person", 2)]) rfl sc_rest_of.nd (pi_range1 (by rfl) T.n_range (pa_cons (pv 0) pa_nil)) (blkOk_by (own := [("person", 2)]) (N := ["folk", "lot", "person"]) (sc := defScope s_rest_of) (by decide +kernel)) (fun _ _ _ _ _ => pg_name (i := 2) sc_rest_of.nd rfl (Or.inl rfl)) (fun _ _ _ _ _ => (pts_one (pt_cmpR (opK (K := K) (r := fun K => rIn K true) op_niS) (pv 2) (pv 1) (by rfl)))) (fun _ _ _ _ _ => (pv 2))) pa_nil)))), fun Q q => ?_⟩
    exact s_ret (ev_tupleL (ev_lcf (fun p => !a.2.contains p) (ei_rng1 (ev_var rfl r1) (by omega) hk.1) (by rw [rng_len]; omega) (fun _ => rfl) (fun x d H1 e hd rd => et_test (ev_notin (ev_var rfl rd) (ev_var rfl (mo e r2)))) fun x d H1 e hd rd _ => ev_var rfl rd)) q
theorem ok_law_rest (T : Txt K mg) : FnOk P w K mg base CX0 1 T.law_rest.f T.law_rest.fd ["_law_folk", "_law_lot"] (spP (fun a : Int × List Int => 0 ≤ a.1 ∧ a.1 ≤ 6) (fun a => [nI a.1, Lot a.2]) fun a => Lot (restL a.1 a.2)) :=
  fn_p T.law_rest sc_law_rest (fun _ => rfl) fun cdv A outer s H E a vs hr hk p => by
    obtain ⟨v, u, rfl, r1, r2⟩ := ptwo p
    refine ⟨_, (pss_one (ps_ret (pe_callTy (crK (K := K) (r := rTupX) cr_tuple) (by rfl) T.n_tuple (by decide +kernel) (pa_cons (pe_lc (own := [("_law_person", 2)]) rfl sc_law_rest.nd (pi_range1 (by rfl) T.n_range (pa_cons (pv 0) pa_nil)) (blkOk_by (own := [("_law_person", 2)]) (N := ["_law_folk", "_law_lot", "_law_person"]) (sc := defScope s_law_rest) (by decide +kernel)) (fun _ _ _ _ _ => pg_name (i := 2) sc_law_rest.nd rfl (Or.inl rfl)) (fun _ _ _ _ _ => (pts_one (pt_cmpR (opK (K := K) (r := fun K => rIn K true) op_niS) (pv 2) (pv 1) (by rfl)))) (fun _ _ _ _ _ => (pv 2))) pa_nil)))), fun Q q => ?_⟩
    exact s_ret (ev_tupleL (ev_lcf (fun p => !a.2.contains p) (ei_rng1 (ev_var rfl r1) (by omega) hk.1) (by rw [rng_len]; omega) (fun _ => rfl) (fun x d H1 e hd rd => et_test (ev_notin (ev_var rfl rd) (ev_var rfl (mo e r2)))) fun x d H1 e hd rd _ => ev_var rfl rd)) q
theorem ok_check_folk (T : Txt K mg) : FnOk P w K mg base CX0 3 T.check_folk.f T.check_folk.fd ["thing"] (spP (fun n : Int => 1 ≤ n ∧ n ≤ 6) (fun n => [nI n]) fun _ => Is .non) :=
  fn_p T.check_folk sc_check_folk (fun _ => rfl) fun cdv A outer s H E n vs hr hk p => by
    obtain ⟨v, rfl, r⟩ := pone p
    refine ⟨_, (pss_one (ps_if (pt_not (pt_val (pe_cl T.is_within (ok_is_within T) hr (by decide) (by rfl) (pa_cons (pv 0) (pa_cons pe_int (pa_cons (pe_glob (v := .int 6) (by rfl) T.gMOST ⟨_, rfl⟩) pa_nil)))))) (pss_one ps_never) pss_nil)), fun Q q => ?_⟩
    exact s_skip (Evl.et_not (a := true) (et_B (ev_call (a := (n, 1, 6)) hk (ea_cons (ev_var rfl r) (ea_cons ev_c (ea1 ev_c)))))) fun H1 e => q _ H1 e rfl
theorem ok_is_part (T : Txt K mg) : FnOk P w K mg base CX0 1 T.is_part.f T.is_part.fd ["lot", "other"] (spP (fun a : List Int × List Int => a.1.length ≤ 1000) (fun a => [Lot a.1, Lot a.2]) fun a => nB (partB a.1 a.2)) :=
  fn_p T.is_part sc_is_part (fun _ => rfl) fun cdv A outer s H E a vs hr hk p => by
    obtain ⟨v, u, rfl, r1, r2⟩ := ptwo p
    refine ⟨_, (pss_one (ps_ret (pe_callB (crK (K := K) (r := rAll) (cr_all rfl)) (by rfl) T.n_all (by decide +kernel) (pa_cons (pe_lc (own := [("person", 2)]) rfl sc_is_part.nd (piK (K := K) (r := fun K => iTup K _) (pi_tup (pv 0))) (blkOk_by (own := [("person", 2)]) (N := ["lot", "other", "person"]) (sc := defScope s_is_part) (by decide +kernel)) (fun _ _ _ _ _ => pg_name (i := 2) sc_is_part.nd rfl (Or.inl rfl)) (fun _ _ _ _ _ => pts_nil) (fun _ _ _ _ _ => (pe_cmpR (opK (K := K) (r := fun K => rIn K false) op_inS) (pv 2) (pv 1) (by rfl)))) pa_nil)))), fun Q q => ?_⟩
    exact s_ret ((ev_all (ev_lcm (fun p => a.2.contains p) (ei_tup (ev_var rfl r1)) (by omega) (fun _ => rfl) fun x d H1 e hd rd => ev_in (ev_var rfl rd) (ev_var rfl (mo e r2)))).eqB (all_id _ _)) q
theorem ok_law_part (T : Txt K mg) : FnOk P w K mg base CX0 1 T.law_part.f T.law_part.fd ["_law_lot", "_law_other"] (spP (fun a : List Int × List Int => a.1.length ≤ 1000) (fun a => [Lot a.1, Lot a.2]) fun a => nB (partB a.1 a.2)) :=
  fn_p T.law_part sc_law_part (fun _ => rfl) fun cdv A outer s H E a vs hr hk p => by
    obtain ⟨v, u, rfl, r1, r2⟩ := ptwo p
    refine ⟨_, (pss_one (ps_ret (pe_callB (crK (K := K) (r := rAll) (cr_all rfl)) (by rfl) T.n_all (by decide +kernel) (pa_cons (pe_lc (own := [("_law_person", 2)]) rfl sc_law_part.nd (piK (K := K) (r := fun K => iTup K _) (pi_tup (pv 0))) (blkOk_by (own := [("_law_person", 2)]) (N := ["_law_lot", "_law_other", "_law_person"]) (sc := defScope s_law_part) (by decide +kernel)) (fun _ _ _ _ _ => pg_name (i := 2) sc_law_part.nd rfl (Or.inl rfl)) (fun _ _ _ _ _ => pts_nil) (fun _ _ _ _ _ => (pe_cmpR (opK (K := K) (r := fun K => rIn K false) op_inS) (pv 2) (pv 1) (by rfl)))) pa_nil)))), fun Q q => ?_⟩
    exact s_ret ((ev_all (ev_lcm (fun p => a.2.contains p) (ei_tup (ev_var rfl r1)) (by omega) (fun _ => rfl) fun x d H1 e hd rd => ev_in (ev_var rfl rd) (ev_var rfl (mo e r2)))).eqB (all_id _ _)) q
theorem ok_law_meets (T : Txt K mg) : FnOk P w K mg base CX0 1 T.law_meets.f T.law_meets.fd ["_law_lot", "_law_other"] (spP (fun a : List Int × List Int => a.1.length ≤ 1000) (fun a => [Lot a.1, Lot a.2]) fun a => nB (meetsB a.1 a.2)) :=
  fn_p T.law_meets sc_law_meets (fun _ => rfl) fun cdv A outer s H E a vs hr hk p => by
    obtain ⟨v, u, rfl, r1, r2⟩ := ptwo p
    refine ⟨_, (pss_one (ps_ret (pe_callB (crK (K := K) (r := rAny) (cr_any rfl)) (by rfl) T.n_any (by decide +kernel) (pa_cons (pe_lc (own := [("_law_person", 2)]) rfl sc_law_meets.nd (piK (K := K) (r := fun K => iTup K _) (pi_tup (pv 0))) (blkOk_by (own := [("_law_person", 2)]) (N := ["_law_lot", "_law_other", "_law_person"]) (sc := defScope s_law_meets) (by decide +kernel)) (fun _ _ _ _ _ => pg_name (i := 2) sc_law_meets.nd rfl (Or.inl rfl)) (fun _ _ _ _ _ => pts_nil) (fun _ _ _ _ _ => (pe_cmpR (opK (K := K) (r := fun K => rIn K false) op_inS) (pv 2) (pv 1) (by rfl)))) pa_nil)))), fun Q q => ?_⟩
    exact s_ret ((ev_any (ev_lcm (fun p => a.2.contains p) (ei_tup (ev_var rfl r1)) (by omega) (fun _ => rfl) fun x d H1 e hd rd => ev_in (ev_var rfl rd) (ev_var rfl (mo e r2)))).eqB (any_id _ _)) q
theorem ok_carries_there (T : Txt K mg) : FnOk P w K mg base CX0 2 T.carries_there.f T.carries_there.fd ["table", "lot"] (spP (fun a : List (List Int) × List Int => a.1.length ≤ 1000 ∧ ∀ l ∈ a.1, l.length ≤ 1000) (fun a => [Tab a.1, Lot a.2]) fun a => nB (carB a.1 a.2)) :=
  fn_p T.carries_there sc_carries_there (fun _ => rfl) fun cdv A outer s H E a vs hr hk p => by
    obtain ⟨v, u, rfl, r1, r2⟩ := ptwo p
    refine ⟨_, (pss_one (ps_ret (pe_callB (crK (K := K) (r := rAny) (cr_any rfl)) (by rfl) T.n_any (by decide +kernel) (pa_cons (pe_lc (own := [("least", 2)]) rfl sc_carries_there.nd (piK (K := K) (r := fun K => iTup K _) (pi_tup (pv 0))) (blkOk_by (own := [("least", 2)]) (N := ["table", "lot", "least"]) (sc := defScope s_carries_there) (by decide +kernel)) (fun _ _ _ _ _ => pg_name (i := 2) sc_carries_there.nd rfl (Or.inl rfl)) (fun _ _ _ _ _ => pts_nil) (fun _ _ _ _ _ => (pe_cl T.is_part (ok_is_part T) hr (by decide) (by rfl) (pa_cons (pv 2) (pa_cons (pv 1) pa_nil))))) pa_nil)))), fun Q q => ?_⟩
    exact s_ret ((ev_any (ev_lcm (fun l => partB l a.2) (ei_tup (ev_var rfl r1)) (by omega) (fun _ => rfl) fun x d H1 e hd rd => ev_call (a := (d, a.2)) (hk.2 d hd) (ea_cons (ev_var rfl rd) (ea1 (ev_var rfl (mo e r2)))))).eqB (any_id _ _)) q
theorem ok_law_carries (T : Txt K mg) : FnOk P w K mg base CX0 2 T.law_carries.f T.law_carries.fd ["_law_known", "_law_lot"] (spP (fun a : List (List Int) × List Int => a.1.length ≤ 1000 ∧ ∀ l ∈ a.1, l.length ≤ 1000) (fun a => [Tab a.1, Lot a.2]) fun a => nB (carB a.1 a.2)) :=
  fn_p T.law_carries sc_law_carries (fun _ => rfl) fun cdv A outer s H E a vs hr hk p => by
    obtain ⟨v, u, rfl, r1, r2⟩ := ptwo p
    refine ⟨_, (pss_one (ps_ret (pe_callB (crK (K := K) (r := rAny) (cr_any rfl)) (by rfl) T.n_any (by decide +kernel) (pa_cons (pe_lc (own := [("_law_least_here", 2)]) rfl sc_law_carries.nd (piK (K := K) (r := fun K => iTup K _) (pi_tup (pv 0))) (blkOk_by (own := [("_law_least_here", 2)]) (N := ["_law_known", "_law_lot", "_law_least_here"]) (sc := defScope s_law_carries) (by decide +kernel)) (fun _ _ _ _ _ => pg_name (i := 2) sc_law_carries.nd rfl (Or.inl rfl)) (fun _ _ _ _ _ => pts_nil) (fun _ _ _ _ _ => (pe_cl T.law_part (ok_law_part T) hr (by decide) (by rfl) (pa_cons (pv 2) (pa_cons (pv 1) pa_nil))))) pa_nil)))), fun Q q => ?_⟩
    exact s_ret ((ev_any (ev_lcm (fun l => partB l a.2) (ei_tup (ev_var rfl r1)) (by omega) (fun _ => rfl) fun x d H1 e hd rd => ev_call (a := (d, a.2)) (hk.2 d hd) (ea_cons (ev_var rfl rd) (ea1 (ev_var rfl (mo e r2)))))).eqB (any_id _ _)) q
end
end Rk
/-! sorted over lots of unlike length (the empty one among them), over a set of them, over a tuple of ints -/
namespace Rk
open PySem PySem.Spec PyProof.Rows L2 PySem.W
open Evl (Ex EvT)
/-! ### the order -/
theorem lex_iff : ∀ {a b : List Int}, HT.lexLt a b = true ↔ a < b
  | [], [] => by simp [HT.lexLt]
  | [], _ :: _ => by simp [HT.lexLt]
  | _ :: _, [] => by simp [HT.lexLt]
  | x :: a, y :: b => by
    rw [HT.lexLt_cons, List.cons_lt_cons_iff]
    by_cases e : x = y
    · rw [if_pos e, lex_iff]
      constructor
      · intro h
        exact .inr ⟨e, h⟩
      · rintro (h | h)
        · omega
        · exact h.2
    · rw [if_neg e, decide_eq_true_eq]
      constructor
      · exact .inl
      · rintro (h | h)
        · exact h
        · exact absurd h.1 e
theorem lex_irr : ∀ a : List Int, HT.lexLt a a = false
  | [] => rfl
  | x :: a => by rw [HT.lexLt_cons, if_pos rfl, lex_irr a]
theorem lex_asym : ∀ a b : List Int, HT.lexLt a b = true → HT.lexLt b a = false
  | [], [], h => rfl
  | [], _ :: _, _ => rfl
  | _ :: _, [], h => by cases h
  | x :: a, y :: b, h => by
    rw [HT.lexLt_cons] at h ⊢
    by_cases e : x = y
    · rw [if_pos e] at h
      rw [if_pos e.symm]
      exact lex_asym a b h
    · rw [if_neg e] at h
      rw [if_neg (fun q => e q.symm)]
      have := of_decide_eq_true h
      exact decide_eq_false (by omega)
theorem lex_tr : ∀ a b c : List Int, HT.lexLt b a = false → HT.lexLt c b = false → HT.lexLt c a = false
  | [], [], [], _, _ => rfl
  | [], [], _ :: _, _, _ => rfl
  | [], _ :: _, [], _, h => by cases h
  | [], _ :: _, _ :: _, _, _ => rfl
  | _ :: _, [], _, h, _ => by cases h
  | _ :: _, _ :: _, [], _, h => by cases h
  | x :: a, y :: b, z :: c, h1, h2 => by
    rw [HT.lexLt_cons] at h1 h2 ⊢
    by_cases e1 : y = x
    · rw [if_pos e1] at h1
      by_cases e2 : z = y
      · rw [if_pos e2] at h2
        rw [if_pos (e2.trans e1)]
        exact lex_tr a b c h1 h2
      · rw [if_neg e2] at h2
        have := of_decide_eq_false h2
        rw [if_neg (fun q => e2 (by omega))]
        exact decide_eq_false (by omega)
    · rw [if_neg e1] at h1
      have q1 := of_decide_eq_false h1
      by_cases e2 : z = y
      · rw [if_pos e2] at h2
        rw [if_neg (by omega)]
        exact decide_eq_false (by omega)
      · rw [if_neg e2] at h2
        have := of_decide_eq_false h2
        rw [if_neg (by omega)]
        exact decide_eq_false (by omega)
theorem lex_conn : ∀ a b : List Int, HT.lexLt a b = false → HT.lexLt b a = false → a = b
  | [], [], _, _ => rfl
  | [], _ :: _, h, _ => by cases h
  | _ :: _, [], _, h => by cases h
  | x :: a, y :: b, h1, h2 => by
    rw [HT.lexLt_cons] at h1 h2
    by_cases e : x = y
    · rw [if_pos e] at h1
      rw [if_pos e.symm] at h2
      rw [e, lex_conn a b h1 h2]
    · rw [if_neg e] at h1
      rw [if_neg (fun q => e q.symm)] at h2
      have := of_decide_eq_false h1
      have := of_decide_eq_false h2
      omega
theorem lex_swo (k : Value → List Int) : SrtO.Swo fun v u => HT.lexLt (k v) (k u) := ⟨fun x y h => lex_asym _ _ h, fun x y z h1 h2 => lex_tr _ _ _ h1 h2⟩
/-! ### comparing -/
section
variable {prog : Program} {w : World} {A : Around} {E : Value → Shared → Prop} {s : Shared} {Q : Bool → Shared → Prop}
theorem lex_walk {b fin : Bool} : ∀ {xs ys : List Value} {ns ms : List Int} (i : Nat), IntsAre xs ns → IntsAre ys ms → fin = decide (ns.length < ms.length) → Q (HT.lexLt ns ms) s → KatLex prog w A b fin Q (xs.zip ys) i s
  | _, _, _, _, i, .nil, .nil, hf, h => by
    subst hf
    exact h
  | _, _, _, _, i, .nil, .cons _ _ _, hf, h => by
    subst hf
    exact h
  | _, _, _, _, i, .cons _ _ _, .nil, hf, h => by
    subst hf
    exact h
  | _, _, _, _, i, (.cons n t hx), (.cons m u hy), hf, h => by
    rw [HT.lexLt_cons] at h
    refine kat_cons (SeqAt.EqAt.int_int n t m u prog w _ _ ?_)
    refine kat_go (fun e1 => ?_) (fun e1 => ?_)
    · have e : n = m := by simpa using e1
      rw [if_pos e] at h
      refine kat_yes (lex_walk (i + 1) hx hy ?_ h)
      rw [hf]
      simp
    · have e : ¬ n = m := by simpa using e1
      rw [if_neg e] at h
      exact kat_no (TS.oneLt_ints _ h)
theorem rc_tups {v u : Value} {ns ms : List Int} (hv : TS.TupInts s.heap v ns) (hw : TS.TupInts s.heap u ms) (hu : A.units < cLine) (h : Q (HT.lexLt ns ms) s) : wpAny (model prog w) A (oneLt' false v u) Q E s := by
  obtain ⟨a, xs, rfl, h1, h2⟩ := hv
  obtain ⟨b, ys, rfl, h3, h4⟩ := hw
  exact kat_one _ _ (HT.lt_tupInts h1 h3 h2 h4 hu h)
theorem ot_tups {v u : Value} {ns ms : List Int} (hv : TS.TupInts s.heap v ns) (hw : TS.TupInts s.heap u ms) (hu : A.units < cLine) (h : Q (HT.lexLt ns ms) s) : wpAny (model prog w) A (oneLt' true v u) Q E s := by
  obtain ⟨a, xs, rfl, ⟨⟨c, dd, dt, sl⟩, ho, hc, n, hd⟩, h2⟩ := hv
  obtain ⟨b, ys, rfl, ⟨⟨c', dd', dt', sl'⟩, ho', hc', n', hd'⟩, h4⟩ := hw
  cases hc
  cases hd
  cases hc'
  cases hd'
  rw [oneLt'_eq]
  simp only [if_true]
  refine wpAny_bind (wpAny_cRoomFor hu ?_)
  refine wpAny_bind (wpAny_callSpecialIfBound?_slot (T := "tuple") ⟨_, ho, rfl⟩ PySem.F.slot_tuple_lt (call_meets PySem.F.slot_tuple_lt ⟨_, ho, rfl⟩ PySem.F.entry_tuple_lt (PySem.F.args_tuple_lt_2 _ _) (HT.tuple_lt_ints a b xs ys n n' dd dd' sl sl' ns ms h2 h4) ⟨ho, ho', ?_⟩))
  exact wpAny_truthy_bool h
theorem tt_tups {v u : Value} {ns ms : List Int} {c : Bool} (hv : TS.TupInts s.heap v ns) (hw : TS.TupInts s.heap u ms) (h : Q (HT.lexLt ns ms) s) : wpAny (model prog w) A (keyLt' (tuples' c) v u) Q E s := by
  obtain ⟨a, xs, rfl, ⟨o, ho, hc, n, hd⟩, h2⟩ := hv
  obtain ⟨b, ys, rfl, ⟨o', ho', hc', n', hd'⟩, h4⟩ := hw
  refine kat_lt ho hd ho' hd' (lex_walk 0 h2 h4 ?_ h)
  rw [← h2.length, ← h4.length, Array.length_toList, Array.length_toList]
end
/-! which comparison is taken -/
section
variable {prog : Program} {w : World} {A : Around} {E : Value → Shared → Prop} {s : Shared}
/-- the first item of each, where there is one -/
def Fst (k : Value → List Int) : List Value → List (Option Value) → Prop
  | [], [] => True
  | v :: vs, f :: fs => f.isSome = !(k v).isEmpty ∧ Fst k vs fs
  | _, _ => False
theorem fst_walk {M : Model} {k : Value → List Int} : ∀ (vs : List Value) {Q : List (Option Value) → Shared → Prop}, (∀ v ∈ vs, TS.TupInts s.heap v (k v)) → (∀ fs, Fst k vs fs → Q fs s) → wpAny M A (vs.mapM firstOfTuple') Q E s
  | [], Q, _, h => by
    rw [List.mapM_nil]
    exact wpAny_pure (h [] trivial)
  | v :: vs, Q, hv, h => by
    obtain ⟨a, xs, e, ⟨o, ho, hc, n, hd⟩, h2⟩ := hv v List.mem_cons_self
    rw [List.mapM_cons]
    refine wpAny_bind ?_
    rw [kas_first_eq, e]
    refine wpAny_bind (Looks.here (show Looks M s.heap (typeOf (.ref a)) o.cls from (Looks.ld ho).andThen .now) ?_)
    rw [hc, if_neg (by first | decide | simp)]
    refine wpAny_bind (listItems_at ho hd (wpAny_pure ?_))
    refine wpAny_bind (fst_walk vs (fun u hu => hv u (List.mem_cons_of_mem _ hu)) fun fs hf => wpAny_pure (h _ ⟨?_, hf⟩))
    have hl := h2.length
    rw [Array.length_toList] at hl
    by_cases hz : (k v) = []
    · rw [hz] at hl ⊢
      rw [Array.getElem?_eq_none (by rw [hl]; exact Nat.le_refl _)]
      rfl
    · have hp : 0 < xs.size := by
        rw [hl]
        exact List.length_pos_iff.mpr hz
      rw [Array.getElem?_eq_getElem hp]
      cases hk : k v with
      | nil => exact absurd hk hz
      | cons _ _ => rfl
theorem fst_all {k : Value → List Int} : ∀ {vs : List Value} {fs : List (Option Value)}, Fst k vs fs → (fs.toArray.all fun x => x.isSome) = vs.all fun v => !(k v).isEmpty
  | [], [], _ => by simp
  | v :: vs, f :: fs, h => by
    have ih := fst_all h.2
    rw [List.all_toArray] at ih ⊢
    rw [List.all_cons, List.all_cons, ih, h.1]
theorem kat_of {k : Value → List Int} {h : Heap} : ∀ (vs : List Value), (∀ v ∈ vs, TS.TupInts h v (k v)) → (∀ v ∈ vs, k v ≠ []) → ∃ fs, KatTups h vs fs ∧ fs.length = vs.length ∧ ∀ f ∈ fs, ∃ n t, f = Value.int n t
  | [], _, _ => ⟨[], KatTups.nil, rfl, fun _ hf => by cases hf⟩
  | v :: vs, hv, hn => by
    obtain ⟨fs, h1, h2, h3⟩ := kat_of vs (fun u hu => hv u (List.mem_cons_of_mem _ hu)) fun u hu => hn u (List.mem_cons_of_mem _ hu)
    obtain ⟨a, xs, e, ⟨o, ho, hc, n, hd⟩, hi⟩ := hv v List.mem_cons_self
    have hne := hn v List.mem_cons_self
    obtain ⟨l, el⟩ : ∃ l, xs = List.toArray l := ⟨xs.toList, by simp⟩
    subst el
    have hi' : IntsAre l (k v) := by simpa using hi
    cases hkv : k v with
    | nil => exact absurd hkv hne
    | cons m ms =>
      rw [hkv] at hi'
      cases hi' with
      | cons m t hr =>
        refine ⟨.int m t :: fs, ?_, by rw [List.length_cons, List.length_cons, h2], fun f hf => ?_⟩
        · rw [e]
          exact KatTups.cons ho hc hd (by simp) h1
        · rcases List.mem_cons.mp hf with z | z
          · exact ⟨m, t, z⟩
          · exact h3 f z
theorem lots_sortable {a : Addr} {vs : List Value} {k : Value → List Int} (h2 : 2 ≤ vs.length) (hu : A.units < cLine) (hv : ∀ v ∈ vs, TS.TupInts s.heap v (k v)) (ha : ∀ o, s.heap.get? a = some o → o.cls ≠ .type "tuple") : SrtO.SortableO prog w A s a vs fun v u => HT.lexLt (k v) (k u) := by
  intro h' keep
  have hv' : ∀ v ∈ vs, TS.TupInts h' v (k v) := fun v hm => (hv v hm).keeps fun b o e c => keep b o (fun z => by subst z; exact ha o e c) e
  by_cases hall : ∀ v ∈ vs, k v ≠ []
  · obtain ⟨fs, k1, k2, k3⟩ := kat_of vs hv' hall
    refine ⟨tuples' true, fun Q E hq => kat_kind (s := { s with heap := h' }) (T := .type "int") k1 (by omega) (fun f hm => ?_) (by rfl) ?_, fun p q hp hq => tt_tups (s := { s with heap := h' }) (hv' p.1 hp) (hv' q.1 hq) ⟨rfl, rfl⟩⟩
    · obtain ⟨n, t, rfl⟩ := k3 f hm
      exact Looks.now
    · have e : (Value.type "int" != Value.type "tuple") = true := by first | decide +kernel | rfl | decide
      rw [e]
      exact hq
  · have hno : (vs.all fun v => !(k v).isEmpty) = false := by
      rw [Bool.eq_false_iff]
      intro hz
      refine hall fun v hm hk => ?_
      have := List.all_eq_true.mp hz v hm
      rw [hk] at this
      cases this
    obtain ⟨v₁, v₂, rest, rfl⟩ : ∃ v₁ v₂ rest, vs = v₁ :: v₂ :: rest := by
      match vs, h2 with
      | [], h2 => simp at h2
      | [_], h2 => simp at h2
      | v₁ :: v₂ :: rest, _ => exact ⟨v₁, v₂, rest, rfl⟩
    have typ : ∀ v ∈ v₁ :: v₂ :: rest, Looks (model prog w) h' (typeOf v) (.type "tuple") := fun v hm => by
      obtain ⟨b, xs, e, ⟨o, ho, hc, _⟩, _⟩ := hv' v hm
      rw [e, ← hc]
      exact (Looks.ld ho).andThen .now
    by_cases h0 : k v₁ = []
    · refine ⟨oneType', fun Q E hq => ?_, fun p q hp hq => ?_⟩
      · rw [kat_kind_eq, List.mapM_toArray, map_eq_pure_bind]
        refine wpAny_bind (wpAny_bind (fst_walk (s := { s with heap := h' }) (k := k) _ hv' fun fs hf => wpAny_pure ?_))
        rw [if_neg (by rw [fst_all hf, hno]; decide)]
        match fs, hf with
        | f :: fs, hf =>
          have hf0 : f.isSome = false := by rw [hf.1, h0]; rfl
          have hf1 : f = none := by cases f with
            | none => rfl
            | some _ => cases hf0
          subst hf1
          rw [if_neg (by simp)]
          rw [oneTypeOnly'_eq, List.mapM_toArray, map_eq_pure_bind]
          refine wpAny_bind (wpAny_bind (wpAny_bind (kas_mapM (r := Value.type "tuple") _ (fun v hv Q' hq => (typ v hv).here hq) (wpAny_pure ?_))))
          have hal : ((List.map (fun _ => Value.type "tuple") (v₁ :: v₂ :: rest)).toArray.all fun x => x == Value.type "tuple") = true := by
            simp only [List.all_toArray, List.all_map, List.all_eq_true]
            intro _ _
            rfl
          have hg : (List.map (fun _ => Value.type "tuple") (v₁ :: v₂ :: rest)).toArray[0]? = some (Value.type "tuple") := by simp
          rw [hg]
          simp only [hal, if_true]
          exact wpAny_pure (wpAny_pure hq)
      · rw [keyLt'_oneType]
        exact ot_tups (s := { s with heap := h' }) (hv' p.1 hp) (hv' q.1 hq) hu ⟨rfl, rfl⟩
    · refine ⟨general', fun Q E hq => ?_, fun p q hp hq => ?_⟩
      · rw [kat_kind_eq, List.mapM_toArray, map_eq_pure_bind]
        refine wpAny_bind (wpAny_bind (fst_walk (s := { s with heap := h' }) (k := k) _ hv' fun fs hf => wpAny_pure ?_))
        rw [if_neg (by rw [fst_all hf, hno]; decide)]
        match fs, hf with
        | f :: fs, hf =>
          have hf0 : f.isSome = true := by
            rw [hf.1]
            cases hk : k v₁ with
            | nil => exact absurd hk h0
            | cons _ _ => rfl
          rw [if_pos (by simpa using hf0)]
          exact wpAny_pure hq
      · exact rc_tups (s := { s with heap := h' }) (hv' p.1 hp) (hv' q.1 hq) hu ⟨rfl, rfl⟩
end
end Rk
/-! sorted as rules of the layer -/
namespace Rk
open PySem PySem.Spec PyProof.Rows L2 PySem.W
open Evl (Ex EvT)
section
variable {prog : Program} {w : World} {A : Around} {E : Value → Shared → Prop} {s : Shared}
/-- sorted(l), l a list of lots -/
theorem sorted_lots {l : Addr} {vs : List Value} {k : Value → List Int} {Q : Value → Shared → Prop} (hu : A.units + 2 < cLine) (hl : s.heap.IsList l vs.toArray) (hz : vs.length ≤ sizeLine) (hv : ∀ v ∈ vs, TS.TupInts s.heap v (k v))
    (h : ∀ (h' : Heap) (d : Addr) (out : List Value), SrtO.Srtd (fun v u => HT.lexLt (k v) (k u)) out → out.Perm vs → (∀ b o, s.heap.get? b = some o → h'.get? b = some o) → s.heap.objs.size ≤ d → (∃ n, h'.get? d = some (seqObj "list" out.toArray n)) → Q (.ref d) { s with heap := h' }) :
    wpAny (model prog w) A (call (.builtin "sorted") [.ref l]) Q E s := by
  refine SrtO.sorted_ord (lex_swo k) hl hz (fun h2 h₁ a ha kk => ?_) fun out hs hb => ?_
  · refine lots_sortable (s := { s with heap := h₁ }) h2 hu (fun v hm => (hv v hm).keeps fun b o e _ => (kk b o e).2) fun o e => ?_
    have e' : some o = some (seqObj "list" vs.toArray 0) := e.symm.trans ha
    cases e'
    intro c
    exact absurd (Value.type.inj c) (by decide)
  · exact h _ _ out hs hb.perm (fun b o e => sortedAll_old e) (Nat.le_succ _) (sortedAll_at s.heap vs out.toArray)
/-- what stands behind a list.sort of a list just made, over the heap ahead of it -/
theorem sort_new {vs : List Value} {k : Value → List Int} {Q : Value → Shared → Prop} (hu : A.units + 2 < cLine) (hz : vs.length ≤ sizeLine) (hv : ∀ v ∈ vs, TS.TupInts s.heap v (k v))
    (h : ∀ (h' : Heap) (out : List Value), SrtO.Srtd (fun v u => HT.lexLt (k v) (k u)) out → out.Perm vs → (∀ b o, s.heap.get? b = some o → h'.get? b = some o) → (∃ n, h'.get? s.heap.objs.size = some (seqObj "list" out.toArray n)) → Q .none { s with heap := h' }) :
    wpAny (model prog w) A (call (.builtin "list.sort") [.ref s.heap.objs.size]) Q E { s with heap := s.heap.push (seqObj "list" vs.toArray 0) } := by
  have hoL : (s.heap.push (seqObj "list" vs.toArray 0)).get? s.heap.objs.size = some (seqObj "list" vs.toArray 0) := Heap.get?_push_size _ rfl
  refine wpAny_call_entry slot_list_sort ⟨_, hoL, rfl⟩ entry_list_sort (SrtO.list_sort_ord (s := { s with heap := s.heap.push (seqObj "list" vs.toArray 0) }) (lex_swo k) hoL hz (fun h2 => ?_) fun out hs hb => ⟨_, rfl, ?_⟩) (args_list_sort _)
  · refine lots_sortable (s := { s with heap := s.heap.push (seqObj "list" vs.toArray 0) }) h2 (by show A.units + 1 < cLine; omega) (fun v hm => (hv v hm).keeps fun b o e _ => Heap.get?_push_of_some _ e) fun o e => ?_
    have e' : some o = some (seqObj "list" vs.toArray 0) := e.symm.trans hoL
    cases e'
    intro c
    exact absurd (Value.type.inj c) (by decide)
  · obtain ⟨c, hc⟩ := sortedHeap_at (vs := vs) (out := out.toArray) hoL
    refine h _ out hs hb.perm (fun b u e => ?_) ⟨c, hc⟩
    have hlt := Heap.lt_size e
    rw [sortedHeap_old (Nat.ne_of_lt hlt) (by rw [size_push']; exact Nat.lt_succ_of_lt hlt)]
    exact Heap.get?_push_of_some _ e
theorem sorted_setL {a : Addr} {L : List (Addr × List Int)} {es : Array (Int × Value)} {ep : Nat} {t : SetTable} {Q : Value → Shared → Prop} (R : SetTR prog w s.heap a L es ep t) (hh : A.handled = none) (hu : A.units + 3 < cLine)
    (hQ : ∀ s' p (out : List Value) (c : Nat), (∀ b o, s.heap.get? b = some o → s'.heap.get? b = some o) → s'.gens = s.gens → s'.os = s.os → s.heap.objs.size ≤ p →
      s'.heap.get? p = some (seqObj "list" out.toArray c) → out.Perm (L.map fun q => Value.ref q.1) → SrtO.Srtd (fun v u => HT.lexLt (TS.intsOf s.heap v) (TS.intsOf s.heap u)) out → Q (.ref p) s') :
    wpAny (model prog w) A (call (.builtin "sorted") [.ref a]) Q E s := by
  obtain ⟨o, ho, hex, hd⟩ := R.ob
  have hsz := R.size
  have hfew := R.few
  refine Calls.call_function_entry kind_sorted plain_sorted entry_sorted (args_sorted1 _) ?_
  unfold Builtin.«sorted»
  refine wpAny_bind (m := checkCount "sorted" 1 1 _) (wpAny_pure ?_)
  refine wpAny_bind (collect_set (A := A.in1) hh ⟨o, ho, hex.1, hd⟩ R.fits (by unfold scanBound; omega) R.tab.ris R.led fun s1 vs k1 hz g1 o1 pm => ?_)
  have hes : es.toList.map (·.2) = L.map fun q => Value.ref q.1 := by
    rw [R.rows]
    unfold L2.rowsOf
    rw [List.map_map] <;> rfl
  rw [hes] at pm
  have hvl : vs.length ≤ sizeLine := by
    rw [pm.length_eq, List.length_map, sizeLine_eq]
    omega
  have hin : ∀ v ∈ vs, TS.TupInts s.heap v (TS.intsOf s.heap v) := fun v hv => by
    obtain ⟨q, hq, e⟩ := List.mem_map.mp (pm.mem_iff.mp hv)
    have x := tupInts_of (R.tup q hq)
    rw [← e, x.ints]
    exact x
  refine wpAny_bind (wpAny_newList ?_ hvl)
  refine wpAny_bind (wpAny_holding (sort_new (s := s1) (k := TS.intsOf s.heap) (by show A.units + 1 + 2 < cLine; omega) hvl (fun v hv => (hin v hv).keeps fun b o e _ => k1 b o e) fun h' out hs hb kk hc => ?_))
  obtain ⟨c, hc⟩ := hc
  exact wpAny_pure ⟨_, rfl, hQ _ s1.heap.objs.size out c (fun b o e => kk b o (k1 b o e)) g1 o1 hz hc (hb.trans pm) hs⟩
/-- the items of a tuple, collected -/
theorem collect_tup {l : Addr} {vs : List Value} {Q : List Value → Shared → Prop} (hl : IsTup s.heap l vs.toArray) (hsz : vs.length ≤ sizeLine)
    (h : Q vs { s with heap := (s.heap.push (seqObj "list" #[] 0)).update s.heap.objs.size (Obj.mapSeq (· ++ vs.toArray)) }) : wpAny (model prog w) A (collect (.ref l)) Q E s := by
  obtain ⟨o, ho, hc, n, hd⟩ := hl
  unfold collect
  refine wpAny_bind (wpAny_runValue (codeAny_builtin entry_proto_collect' ?_))
  show wpAny _ _ (do again (.builtin "list.__iadd__" ⟨[← newList [], .ref l], []⟩)) _ _ s
  refine wpAny_bind (wpAny_newList (wpAny_pure ⟨Code.quiet_builtin _ (by decide +kernel), codeAny_builtin entry_list_iadd' ?_⟩))
  show wpAny _ _ (Builtin.List.listExtendWith (.ref s.heap.objs.size) (.ref l) (.ref s.heap.objs.size)) _ _ { s with heap := s.heap.push (seqObj "list" #[] 0) }
  unfold Builtin.List.listExtendWith
  have ho' : (s.heap.push (seqObj "list" #[] 0)).get? l = some o := Heap.get?_push_of_some _ ho
  refine wpAny_bind (wpAny_typeOf (T := "tuple") ⟨o, ho', hc⟩ ?_)
  have ht : (Value.type "tuple" == Value.type "tuple") = true := by rfl
  rw [if_pos (by rw [ht]; simp)]
  refine wpAny_bind (listItems_at ho' hd ?_)
  refine wpAny_bind (listItems_at (xs := #[]) (n := 0) (Heap.get?_push_size _ rfl) rfl ?_)
  rw [if_neg (by simp)]
  refine wpAny_bind (listUpdate_at (xs := #[]) (n := 0) (Heap.get?_push_size _ rfl) rfl ?_ (Nat.zero_le _) (by show (#[] ++ vs.toArray).size ≤ sizeLine + 1; simp only [Array.size_append, List.size_toArray, List.length_nil]; omega))
  refine wpAny_pure ?_
  show wpAny (model prog w) A (do
      let o ← load s.heap.objs.size
      match o.data with
      | .seq xs _ => pure xs.toList
      | _ => unsupported "internal:collect") Q E { s with heap := (s.heap.push (seqObj "list" #[] 0)).update s.heap.objs.size (Obj.mapSeq (· ++ vs.toArray)) }
  refine wpAny_bind (wpAny_load (get?_update_seq (Heap.get?_push_size _ rfl) _) ?_)
  show wpAny _ _ (pure ((#[] : Array Value) ++ vs.toArray).toList) Q E _
  rw [show ((#[] : Array Value) ++ vs.toArray).toList = vs by simp]
  exact wpAny_pure h
end
end Rk
/-! sorted, by values -/
namespace Rk
open PySem PySem.Spec PyProof.Rows L2 PySem.W
open Evl (Ex EvT)
section
variable {prog : Program} {w : World} {A : Around} {E : Value → Shared → Prop} {s : Shared}
/-- sorted(t), t a tuple of a few ints -/
theorem sorted_tupI {l : Addr} {vs : List Value} {ns : List Int} {Q : Value → Shared → Prop} (hl : IsTup s.heap l vs.toArray) (hI : IntsAre vs ns) (h64 : vs.length < 64)
    (h : ∀ (out : Array Value) (ns' : List Int), IntsAre out.toList ns' → ns'.Perm ns → ns'.Pairwise (· ≤ ·) → Q (.ref (s.heap.objs.size + 1)) { s with heap := sortedAll s.heap vs out }) :
    wpAny (model prog w) A (call (.builtin "sorted") [.ref l]) Q E s := by
  have hz : vs.length ≤ sizeLine := by
    rw [sizeLine_eq]
    omega
  refine Calls.call_function_entry kind_sorted plain_sorted entry_sorted (args_sorted1 _) ?_
  unfold Builtin.«sorted»
  refine wpAny_bind (m := checkCount "sorted" 1 1 _) (wpAny_pure ?_)
  refine wpAny_bind (collect_tup hl hz ?_)
  refine wpAny_bind (wpAny_newList ?_ hz)
  have e1 : ((s.heap.push (seqObj "list" #[] 0)).update s.heap.objs.size (Obj.mapSeq (· ++ vs.toArray))).objs.size = s.heap.objs.size + 1 := by
    rw [Heap.size_update, size_push']
  have e2 : (((s.heap.push (seqObj "list" #[] 0)).update s.heap.objs.size (Obj.mapSeq (· ++ vs.toArray))).push (seqObj "list" vs.toArray 0)).get? (s.heap.objs.size + 1) = some (seqObj "list" vs.toArray 0) := by
    rw [← e1]
    exact Heap.get?_push_size _ rfl
  show wpAny _ _ _ _ _ { s with heap := ((s.heap.push (seqObj "list" #[] 0)).update s.heap.objs.size (Obj.mapSeq (· ++ vs.toArray))).push (seqObj "list" vs.toArray 0) }
  rw [e1]
  refine wpAny_bind (wpAny_holding (wpAny_call_entry slot_list_sort ⟨_, e2, rfl⟩ entry_list_sort (list_sort_tree e2 hI h64 fun out ns' a1 a2 a3 => ⟨_, rfl, ?_⟩) (args_list_sort _)))
  exact wpAny_pure ⟨_, rfl, h out ns' a1 a2 a3⟩
end
def rSortTupI (K : PySem.W.Frag) : List V → Hp → VK → Prop := fun vs H Q => ∃ (a : Addr) (ns : List Int), vs = [V.ref a] ∧ SqT K H a (ns.map V.int) ∧ ns.length < 64 ∧
  ∀ (ns' : List Int) (p : Addr), ns'.Perm ns → ns'.Pairwise (· ≤ ·) → H p = none → Q (.ref p) (upd H p (.lst (ns'.map V.int)))
def rSortLots (K : PySem.W.Frag) : List V → Hp → VK → Prop := fun vs H Q => ∃ (a : Addr) (xs : List V) (ls : List (List Int)), vs = [V.ref a] ∧ SqL K H a xs ∧ Paired (fun v l => Lot l H v) xs ls ∧
  ∀ (ys : List V) (ls' : List (List Int)) (p : Addr), ls'.Perm ls → ls'.Pairwise (fun x y => HT.lexLt y x = false) → Paired (fun v l => Lot l H v) ys ls' → H p = none → Q (.ref p) (upd H p (.lst ys))
def rSortSet (P : Program) (w : World) : List V → Hp → VK → Prop := fun vs H Q => ∃ (a : Addr) (L : List (Addr × List Int)), vs = [V.ref a] ∧ H a = some (SetTO P w a L) ∧ (∀ p ∈ L, H p.1 = some (.tup (p.2.map V.int))) ∧
  ∀ (ys : List V) (ls' : List (List Int)) (p : Addr), ls'.Perm (L.map (·.2)) → ls'.Nodup → ls'.Pairwise (fun x y => HT.lexLt y x = false) → Paired (fun v l => Lot l H v) ys ls' → H p = none → Q (.ref p) (upd H p (.lst ys))
theorem perm_all {α : Type} {R : α → Prop} {l m : List α} (p : l.Perm m) (h : ∀ x ∈ m, R x) : ∀ x ∈ l, R x := fun x hx => h x (p.mem_iff.mp hx)
theorem p_of {α : Type} {F : V → α → Prop} {g : Value → V} {k : Value → α} : ∀ {out : List Value}, (∀ u ∈ out, F (g u) (k u)) → Paired F (out.map g) (out.map k)
  | [], _ => .nil
  | u :: out, h => .cons (h u List.mem_cons_self) (p_of fun v hv => h v (List.mem_cons_of_mem _ hv))
section
variable {X : Cx}
theorem cr_sortTupI : CallR X (.builtin "sorted") (rSortTupI X.K) := by
  intro pins s σ H vs us Q I r h
  obtain ⟨a, ns, rfl, hs, h64, q⟩ := h
  obtain ⟨its, rv, ht, hz⟩ := I.tuple hs
  obtain ⟨u, rfl, ru⟩ := vals1 r
  obtain rfl : u = Value.ref a := ru
  have hI : IntsAre its ns := intsAre_of rv
  have hl : its.length = ns.length := hI.length
  refine sorted_tupI ht hI (by omega) fun out ns' a1 a2 a3 => ?_
  obtain ⟨n, hn⟩ := sortedAll_at s.heap its out
  have hp : s.heap.objs.size ≤ s.heap.objs.size + 1 := Nat.le_succ _
  refine ⟨.ref (s.heap.objs.size + 1), _, I.laid (t' := s.toks) (o := .lst (ns'.map V.int)) (fun b o e => sortedAll_old e) hp ⟨?_, out.toList, n, vals_of_ints a1, ?_⟩, rfl, q ns' _ a2 a3 (I.hok.fresh hp)⟩
  · rw [List.length_map, a2.length_eq, sizeLine_eq]
    omega
  · rw [hn]
  -- the heap keeps all that stood
theorem cr_sortLots (hu : X.A.units + 2 < cLine) : CallR X (.builtin "sorted") (rSortLots X.K) := by
  intro pins s σ H vs us Q I r h
  obtain ⟨a, xs, ls, rfl, hs, hx, q⟩ := h
  obtain ⟨its, rv, hl, hz⟩ := I.list hs
  obtain ⟨u, rfl, ru⟩ := vals1 r
  obtain rfl : u = Value.ref a := ru
  have isref : ∀ x ∈ xs, ∃ a, x = V.ref a := fun x m => by
    obtain ⟨i, hi⟩ := List.getElem?_of_mem m
    obtain ⟨l, _, t, ht⟩ := pget' hx hi
    obtain ⟨_, e, _⟩ := ht
    exact ⟨t, e⟩
  obtain ⟨e1, e2⟩ := refs_back rv isref
  have key : ∀ (zs : List Value) (ms : List (List Int)), Paired (fun v l => Lot l H v) (zs.map backV) ms → (∀ v ∈ zs, ∃ a, v = Value.ref a) → ms = zs.map (TS.intsOf s.heap) ∧ ∀ v ∈ zs, TS.TupInts s.heap v (TS.intsOf s.heap v) ∧ Lot (TS.intsOf s.heap v) H (backV v) := by
    intro zs
    induction zs with
    | nil =>
      intro ms p _
      cases p
      exact ⟨rfl, fun v hv => by cases hv⟩
    | cons z zs ih =>
      intro ms p hr
      cases p with
      | cons r t =>
        obtain ⟨i1, i2⟩ := ih _ t fun v hv => hr v (List.mem_cons_of_mem _ hv)
        obtain ⟨b, rfl⟩ := hr z List.mem_cons_self
        obtain ⟨b', eb, hb⟩ := lot_raw r
        cases eb
        have ti := tupI_raw I (SqT.of hb)
        refine ⟨by rw [List.map_cons, ← i1, ti.ints], fun v hv => ?_⟩
        rcases List.mem_cons.mp hv with e | e
        · rw [e, ti.ints]
          exact ⟨ti, r⟩
        · exact i2 v e
  rw [e1] at hx
  obtain ⟨k1, k2⟩ := key its ls hx e2
  refine sorted_lots (k := TS.intsOf s.heap) hu hl.isList (by rw [← rv.length]; exact hz) (fun v hv => (k2 v hv).1) fun h' d out h1 h2 kp hd hn => ?_
  obtain ⟨n, hn⟩ := hn
  have h3 : ∀ u ∈ out, ∃ a, u = Value.ref a := perm_all h2 e2
  refine ⟨.ref d, upd H d (.lst (out.map backV)), I.laid (t' := s.toks) kp hd ⟨?_, out, n, vals_back h3, hn⟩, rfl, q _ (out.map (TS.intsOf s.heap)) d ?_ (List.pairwise_map.mpr h1) (p_of (perm_all h2 fun v hv => (k2 v hv).2)) (I.hok.fresh hd)⟩
  · rw [List.length_map, h2.length_eq, ← rv.length]
    exact hz
  · rw [k1]
    exact h2.map _
theorem cr_sortSet (hc : X.calm = true) (hu : X.A.units + 3 < cLine) : CallR X (.builtin "sorted") (rSortSet X.prog X.w) := by
  intro pins s σ H vs us Q I r h
  obtain ⟨a, L, rfl, ha, hk, q⟩ := h
  have R0 : SetT0 X.prog X.w s.heap a L := (I.hok a _ ha).1
  obtain ⟨es, ep, t, R⟩ := R0.full fun p hp => I.isT (SqT.of (hk p hp))
  rw [Vals.ref1 r]
  refine sorted_setL R (I.ok.hd hc) hu fun s' p out c k g o hp hg pm hs => ?_
  have hfew : out.length < 64 := by
    rw [pm.length_eq, List.length_map]
    exact R.few
  have h3 : ∀ u ∈ out, ∃ a, u = Value.ref a := perm_all pm fun x hx => by
    obtain ⟨z, _, rfl⟩ := List.mem_map.mp hx
    exact ⟨_, rfl⟩
  have hlen : (out.map backV).length ≤ sizeLine := by
    rw [List.length_map, sizeLine_eq]
    omega
  have hn : H p = none := I.hok.fresh hp
  have J : Inv X pins σ (upd H p (.lst (out.map backV))) { s with heap := s'.heap, gens := s'.gens, drawn := s'.drawn, toks := s'.toks } :=
    I.call (ch := []) (Un.laid k hp hn) (I.hok.laid k hp ⟨hlen, out, c, vals_back h3, hg⟩) (by rw [g]; exact I.bare) (fun _ z => nomatch z)
  have e : s' = { s with heap := s'.heap, gens := s'.gens, drawn := s'.drawn, toks := s'.toks } := by
    cases s'
    cases s
    cases o
    rfl
  rw [e]
  have lt : ∀ z ∈ L, TS.intsOf s.heap (.ref z.1) = z.2 ∧ Lot z.2 H (.ref z.1) := fun z hz => ⟨(tupI_raw I (SqT.of (hk z hz))).ints, raw_lot (hk z hz)⟩
  have pmk : (out.map (TS.intsOf s.heap)).Perm (L.map (·.2)) := by
    refine (pm.map (TS.intsOf s.heap)).trans (List.Perm.of_eq ?_)
    rw [List.map_map]
    exact List.map_congr_left fun z hz => (lt z hz).1
  refine ⟨.ref p, _, J, rfl, q _ (out.map (TS.intsOf s.heap)) p pmk (pmk.nodup_iff.mpr R.nd) (List.pairwise_map.mpr hs) (p_of fun u hu => ?_) hn⟩
  obtain ⟨z, hz, rfl⟩ := List.mem_map.mp (pm.mem_iff.mp hu)
  show Lot (TS.intsOf s.heap (.ref z.1)) H (.ref z.1)
  rw [(lt z hz).1]
  exact (lt z hz).2
end
end Rk
/-! enumerate over a tuple -/
namespace Rk
open PySem PySem.Spec PyProof.Rows L2
open Evl (Ex EvT)
section
open AutoSeq1 (wpAny_loadPart')
theorem meets_enumT (l : Addr) (items : Array Value) (n : Nat) (dct : Option Addr) (sl : Array (Option Value)) :
    Meets (Builtin.«enumerate.__new__» ⟨[.type "enumerate", .ref l], []⟩) (fun _ R s => s.heap.get? l = some { cls := .type "tuple", dict := dct, data := .seq items n, slots := sl } ∧
      R (.ok (.ret (.ref (s.heap.push { cls := .type "tuple_iterator", data := .fields #[.ref l, .int 0 0] }).objs.size)))
        { s with heap := (s.heap.push { cls := .type "tuple_iterator", data := .fields #[.ref l, .int 0 0] }).push { cls := .type "enumerate", data := .fields #[.none, .bool false, .ref s.heap.objs.size, rawInt 0, .none, .none] } }) :=
  .of_wp fun prog w A R s h => by
    obtain ⟨hp, g, d, tk, os⟩ := s
    obtain ⟨hl, h⟩ := h
    have hsub := sub_enumerate
    have hT : Heap.IsTuple (Shared.heap ⟨hp, g, d, tk, os⟩) l items := ⟨_, hl, rfl, n, rfl⟩
    wp_walk using wpAny_loadPart' hl
    refine wpAny_stack_any fun st => wpAny_pure ?_
    split
    · rename_i c _ _ _ _ _
      cases (c == Value.type "enumerate")
      · wp_walk using wpAny_loadPart' hl, wpAny_pyIter_tuple hT
        exact ⟨_, rfl, h⟩
      · wp_walk using wpAny_loadPart' hl, wpAny_pyIter_tuple hT
        exact ⟨_, rfl, h⟩
    · wp_walk using wpAny_loadPart' hl, wpAny_pyIter_tuple hT
      exact ⟨_, rfl, h⟩
end
section
variable {prog : Program} {w : World} {A : Around} {E : Value → Shared → Prop} {s : Shared}
theorem call_enumT {l : Addr} {items : Array Value} {Q : Value → Shared → Prop} (hL : s.heap.IsTuple l items)
    (h : ∀ h', IsEnum h' (s.heap.objs.size + 1) s.heap.objs.size 0 .none → h'.IsTupleIter s.heap.objs.size l 0 → h'.objs.size = s.heap.objs.size + 2 →
      (∀ b o, s.heap.get? b = some o → h'.get? b = some o) → Q (.ref (s.heap.objs.size + 1)) { s with heap := h' }) :
    wpAny (model prog w) A (call (.type "enumerate") [.ref l]) Q E s := by
  obtain ⟨⟨c, dct, dt, sl⟩, hl, hc, n, hd⟩ := hL
  cases hc
  cases hd
  refine callType_new F.called_enumerate (by decide) (F.typeCall_enumerate_1 _) (F.newCall_enumerate_1 _) (fun obj => F.args_object_init_2 obj _) F.entry_enumerate_new
    (meets_enumT l items n dct sl) ⟨hl, ?_⟩
  have hz : (s.heap.push { cls := .type "tuple_iterator", data := .fields #[.ref l, .int 0 0] }).objs.size = s.heap.objs.size + 1 := Heap.size_push ..
  show _ ∧ _
  rw [hz]
  have he : IsEnum ((s.heap.push { cls := .type "tuple_iterator", data := .fields #[.ref l, .int 0 0] }).push
      { cls := .type "enumerate", data := .fields #[.none, .bool false, .ref s.heap.objs.size, rawInt 0, .none, .none] }) (s.heap.objs.size + 1) s.heap.objs.size 0 .none := by
    have q := Heap.get?_push_size (s.heap.push { cls := .type "tuple_iterator", data := .fields #[.ref l, .int 0 0] })
      (o := { cls := .type "enumerate", data := .fields #[.none, .bool false, .ref s.heap.objs.size, rawInt 0, .none, .none] }) rfl
    rw [hz] at q
    exact q
  exact ⟨⟨_, he, rfl⟩, h _ he ⟨_, Heap.get?_push_of_some _ (Heap.get?_push_size _ rfl), rfl, rfl⟩ (by rw [Heap.size_push, hz]) fun b o x => Heap.get?_push_of_some _ (Heap.get?_push_of_some _ x)⟩
end
/-- the tuple at a, each item in a new pair -/
def IteT (K : PySem.W.Frag) (a : Addr) : It :=
  ⟨fun i H => ∃ (xs : List V) (x : V), SqT K H a xs ∧ xs[i]? = some x, fun i H v H' => ∃ T x, v = .ref T ∧ H T = none ∧ H' = upd H T (.tup [.int (i : Nat), x]) ∧ ∀ xs, SqT K H a xs → xs[i]? = some x, fun i H => ∃ xs : List V, SqT K H a xs ∧ xs.length = i⟩
theorem turn_enumT {P : Program} {w : World} {K : PySem.W.Frag} {elts : List Expr} {kk : Nat} {tpos : Pos} (a e it : Addr) :
    Turn P w K (.Tuple elts kk tpos) (IteT K a) [e, it] e (fun i h => (∃ old, IsEnum h e it ((i : Nat) : Int) old) ∧ h.IsTupleIter it a i ∧ e ≠ it) where
  mem := List.mem_cons_self
  obj := fun i h st b hb => by
    obtain ⟨⟨old, he⟩, ⟨o, ho, hc, hd⟩, _⟩ := st
    rcases List.mem_cons.mp hb with z | z
    · rw [z]
      exact ⟨_, he, fun v q => nomatch q⟩
    · rw [List.mem_singleton.mp z]
      exact ⟨o, ho, fun v q => by rw [hd] at q; cases q⟩
  keep := fun i h h' st k => let ⟨⟨old, he⟩, hi, hne⟩ := st; ⟨⟨old, k e (by simp) _ he⟩, hi.at fun o q => k it (by simp) o q, hne⟩
  item := by
    intro X hP hw hK hc i pins s σ H E I hf st hg
    subst hP hw hK
    obtain ⟨⟨old, he⟩, hit, hne⟩ := st
    obtain ⟨xs, x, hq, hx⟩ := hg
    obtain ⟨its, rv, p, hz⟩ := I.tuple hq
    obtain ⟨u, hu, ru⟩ := rv.get hx
    have hel : e < s.heap.objs.size := Heap.lt_size he
    have hil : it < s.heap.objs.size := by
      obtain ⟨_, q, _⟩ := hit
      exact Heap.lt_size q
    have ane : a ≠ it := by
      rintro rfl
      obtain ⟨o1, q1, c1, _⟩ := hit
      obtain ⟨o2, q2, c2, _⟩ := p
      rw [q1] at q2
      cases q2
      rw [c1] at c2
      exact absurd (Value.type.inj c2) (by decide)
    have ane2 : e ≠ a := by
      rintro rfl
      obtain ⟨o2, q2, c2, _⟩ := p
      have q1 : s.heap.get? e = _ := he
      rw [q1] at q2
      cases q2
      exact absurd (Value.type.inj c2) (by decide)
    have hlt : i < its.toArray.size := by
      have := (List.getElem?_eq_some_iff.mp hu).1
      simpa using this
    refine wpAny_pyNext_enum_itemD (Draws.tuple (A := X.A.in1) (I.ok.hd hc) it a ane its.toArray) he ⟨hit, p⟩ hlt hne (by intro z; rcases List.mem_cons.mp z with z | z; exact hne z; exact ane2 (List.mem_singleton.mp z)) fun y h' tk hP ho hs' hT hsz hk => ?_
    have ey : y = u := by
      have : its.toArray[i]? = some u := by simpa using hu
      rw [this] at hP
      exact (Option.some.inj hP).symm
    subst ey
    refine ⟨_, rfl, wpAny_letOwnedTupleGo_enum (s := { s with heap := h', toks := tk + 1 }) ho fun h'' he' sb => ?_⟩
    have hT2 : h''.get? s.heap.objs.size = some { cls := .type "tuple", data := .seq #[.int i tk, y] } := (sb.2 _ (Nat.ne_of_gt hel)).trans hT
    have new : ObjOk X.prog X.w (upd H s.heap.objs.size (.tup [.int (i : Nat), x])) h'' s.heap.objs.size (.tup [.int (i : Nat), x]) :=
      ⟨by show 2 ≤ sizeLine; decide, [.int i tk, y], .cons ⟨_, rfl⟩ (.cons ru .nil), ⟨_, hT2, rfl, _, rfl⟩⟩
    have I1 : Inv X pins σ (upd H s.heap.objs.size (.tup [.int (i : Nat), x])) { s with heap := h'', toks := tk + 1 } :=
      I.turnedNew (ch := [e, it]) (fun b ob hb q => (sb.2 b (fun z => hb (by simp [z]))).trans (hk b ob (fun z => hb (by simp [z])) (fun z => hb (by simp [z])) q)) hf (Nat.le_refl _) new
    refine ⟨.ref s.heap.objs.size, _, I1, rfl, ⟨_, x, rfl, I.hok.fresh (Nat.le_refl _), rfl, fun ys hy => by rw [I.tuple_inj hy hq]; exact hx⟩, ⟨⟨y, ?_⟩, hs'.1.at fun o q => (sb.2 it (Ne.symm hne)).trans q, hne⟩, fun b hb => ?_⟩
    · have e1 : ((i + 1 : Nat) : Int) = (i : Int) + 1 := by omega
      rw [e1]
      exact he'
    · have hb' : b < s.heap.objs.size := by
        rcases List.mem_cons.mp hb with z | z
        · rw [z]
          exact hel
        · rw [List.mem_singleton.mp z]
          exact hil
      rw [upd_ne (Nat.ne_of_lt hb')]
      exact (hf b hb).1
  done := by
    intro X hP hw hK hc i pins s σ H E I hf st hg
    subst hP hw hK
    obtain ⟨⟨old, he⟩, hit, hne⟩ := st
    obtain ⟨xs, hq, hx⟩ := hg
    obtain ⟨its, rv, p, hz⟩ := I.tuple hq
    obtain ⟨f0, f1, f2, f3, f4, f5⟩ := hf it (by simp)
    have hl := rv.length
    have ane : a ≠ it := by
      rintro rfl
      obtain ⟨o1, q1, c1, _⟩ := hit
      obtain ⟨o2, q2, c2, _⟩ := p
      rw [q1] at q2
      cases q2
      rw [c1] at c2
      exact absurd (Value.type.inj c2) (by decide)
    have ei : i = its.toArray.size := by
      have : its.toArray.size = its.length := by simp
      omega
    subst ei
    exact wpAny_pyNext_enum_endD (Draws.tuple (A := X.A.in1) (I.ok.hd hc) it a ane its.toArray) he ⟨hit, p⟩ fun h' eb => ⟨rfl, I.turned (t' := s.toks) (fun b o hb q => eb b o hb q) f0 f1 f3 f4 f5⟩
  self := fun A i s Q E st h => let ⟨⟨_, he⟩, _⟩ := st; wpAny_pyIter_enum he h
def iEnumT (K : PySem.W.Frag) (ta : TA) : TI := fun σ H R => ta σ H fun vs H1 => ∃ a xs, vs = [.ref a] ∧ SqT K H1 a xs ∧ R (IteT K a) H1
theorem pi_enumT {X : Cx} {e : Expr} {ta : TA} {p pos tpos : Pos} {elts : List Expr} {kk : Nat} (hg : Gl X "enumerate") (hm : X.mg "enumerate" = none) (ha : PA X [e] ta) (hs : starEach [e] X.env = [(false, eval e X.env)] := by rfl) :
    PI X (.Tuple elts kk tpos) (.Call (.Name "enumerate" p) [e] [] pos) (iEnumT X.K ta) := by
  refine ⟨fun pins s σ H R I h => ?_⟩
  refine Call_ (ld_blt I hg hm boot_enumerate (PyProof.Rows.callWith_type1 (thn (ha.run pos pins s σ H _ I h) fun us s1 ⟨vs, H1, I1, r1, q1⟩ => ?_) hs rfl))
  obtain ⟨a, xs, ex, hq, q⟩ := q1
  subst ex
  cases r1 with
  | cons r rr =>
    cases rr
    cases r
    obtain ⟨its, rv, p', hz⟩ := I1.tuple hq
    refine call_enumT p' fun h' he hit hsz hk => wpAny_pyIter_enum he ?_
    have I2 : Inv X pins σ H1 { s1 with heap := h' } := I1.kept (t' := s1.toks) hk
    refine ⟨s1.heap.objs.size + 1, [s1.heap.objs.size + 1, s1.heap.objs.size], _, _, H1, rfl, I2, turn_enumT a (s1.heap.objs.size + 1) s1.heap.objs.size, ⟨⟨.none, he⟩, hit, Nat.succ_ne_self _⟩, fun b hb => ?_, q⟩
    have hle : s1.heap.objs.size ≤ b := by
      rcases List.mem_cons.mp hb with z | z
      · rw [z]
        exact Nat.le_add_right _ _
      · rw [List.mem_singleton.mp z]
        exact Nat.le_refl _
    exact I1.fpOk hle (I1.hok.fresh hle)
/-- pairs (number, item) -/
def Num {α : Type} (R : α → RP) (p : Nat × α) : RP := fun H v => ∃ a x, v = .ref a ∧ H a = some (.tup [.int (p.1 : Nat), x]) ∧ R p.2 H x
instance {α : Type} {R : α → RP} [∀ d, MoT (R d)] {p : Nat × α} : MoT (Num R p) := ⟨fun e ⟨a, x, h1, h2, h3⟩ => ⟨a, x, h1, e a _ h2, MoT.mt e h3⟩⟩
def numd {α : Type} (l : List α) : List (Nat × α) := l.zipIdx.map fun p => (p.2, p.1)
theorem numd_get {α : Type} {l : List α} {i : Nat} {d : Nat × α} (h : (numd l)[i]? = some d) : d.1 = i ∧ l[i]? = some d.2 := by
  unfold numd at h
  rw [List.getElem?_map, List.getElem?_zipIdx] at h
  cases hl : l[i]? with
  | none =>
    rw [hl] at h
    cases h
  | some x =>
    rw [hl] at h
    cases h
    exact ⟨Nat.zero_add _, rfl⟩
theorem numd_len {α : Type} (l : List α) : (numd l).length = l.length := by
  unfold numd
  rw [List.length_map, List.length_zipIdx]
theorem ei_enumT {α : Type} {K : PySem.W.Frag} {σ : L2.St} {H : Hp} {te : TE} {T : α → RP} [∀ d, Mo (T d)] {ds : List α} (h : EvX te σ H (Tup T ds)) : EiX (iEnumT K (tCons te tNil)) σ H (Num T) (numd ds) := fun H1 e Rk q => h H1 e _ fun v H2 e2 r => by
  obtain ⟨a, vs, rfl, e1, p⟩ := r
  refine ⟨a, vs, rfl, SqT.of e1, q _ H2 e2 fun H3 e3 => ⟨fun i d hd => ?_, vs, SqT.of (e3 a _ e1), by rw [numd_len]; exact plen p⟩⟩
  obtain ⟨d1, d2⟩ := numd_get hd
  obtain ⟨x, hx, rx⟩ := pget (pmo e3 p) d2
  refine ⟨⟨vs, x, SqT.of (e3 a _ e1), hx⟩, fun x' H4 y => ?_⟩
  obtain ⟨Tt, x2, rfl, nT, rfl, f⟩ := y
  have ex := f vs (SqT.of (e3 a _ e1))
  rw [hx] at ex
  cases ex
  exact ⟨Ex.new nT, Tt, x, rfl, by rw [upd_same, d1], Mo.mo (Ex.new nT) rx⟩
end Rk
/-! what carries, as the bits of a number -/
namespace Rk
open L2
/-! ### single bits -/
theorem bitf {p k : Nat} (hp : p < 6) (hk : k < 64) : (decide (2 ^ p ≤ k) && !(k - 2 ^ p).testBit p) = k.testBit p := by
  have h : ∀ p < 6, ∀ k < 64, (decide (2 ^ p ≤ k) && !(k - 2 ^ p).testBit p) = k.testBit p := by decide +kernel
  exact h p hp k hk
theorem bit_out {p k : Nat} (hp : p < 6) (hk : k < 64) (h : k.testBit p = true) : k - 2 ^ p = k ^^^ 2 ^ p := by
  have q : ∀ p < 6, ∀ k < 64, k.testBit p = true → k - 2 ^ p = k ^^^ 2 ^ p := by decide +kernel
  exact q p hp k hk h
theorem bit_in {p k : Nat} (hp : p < 6) (hk : k < 64) (h : k.testBit p = false) : k + 2 ^ p = k ^^^ 2 ^ p := by
  have q : ∀ p < 6, ∀ k < 64, k.testBit p = false → k + 2 ^ p = k ^^^ 2 ^ p := by decide +kernel
  exact q p hp k hk h
theorem xor_lt {p k : Nat} (hp : p < 6) (hk : k < 64) : k ^^^ 2 ^ p < 64 := by
  have q : ∀ p < 6, ∀ k < 64, k ^^^ 2 ^ p < 64 := by decide +kernel
  exact q p hp k hk
theorem xor_at {p k i : Nat} : (k ^^^ 2 ^ p).testBit i = (k.testBit i != decide (p = i)) := by
  rw [Nat.testBit_xor, Nat.testBit_two_pow]
def lowsN : List Nat := [6148914691236517205, 3689348814741910323, 1085102592571150095, 71777214294589695, 281470681808895, 4294967295]
def lowN (p : Nat) : Nat := lowsN.getD p 0
theorem low_at {p j : Nat} (hp : p < 6) (hj : j < 64) : (lowN p).testBit j = !j.testBit p := by
  have q : ∀ p < 6, ∀ j < 64, (lowN p).testBit j = !j.testBit p := by decide +kernel
  exact q p hp j hj
theorem low_lt (p : Nat) : lowN p < 2 ^ 64 := by
  by_cases h : p < 6
  · have q : ∀ p < 6, lowN p < 2 ^ 64 := by decide +kernel
    exact q p h
  · unfold lowN
    have e : lowsN[p]? = none := List.getElem?_eq_none_iff.mpr (by show 6 ≤ p; omega)
    rw [List.getD_eq_getElem?_getD, e]
    decide
/-! ### the program's numbers -/
def withP (u p : Nat) : Nat := (u &&& lowN p) * 2 ^ (2 ^ p)
def lessP (u p : Nat) : Nat := (u / 2 ^ (2 ^ p)) &&& lowN p
theorem with_at {u p k : Nat} (hp : p < 6) (hk : k < 64) : (withP u p).testBit k = (k.testBit p && u.testBit (k ^^^ 2 ^ p)) := by
  unfold withP
  rw [Nat.testBit_mul_two_pow, Nat.testBit_and]
  have f := bitf hp hk
  by_cases h : 2 ^ p ≤ k
  · rw [low_at hp (show k - 2 ^ p < 64 from Nat.lt_of_le_of_lt (Nat.sub_le _ _) hk)]
    rw [decide_eq_true h, Bool.true_and] at f ⊢
    rw [← f]
    cases hb : (k - 2 ^ p).testBit p
    · rw [hb] at f
      rw [bit_out hp hk f.symm]
      cases u.testBit (k ^^^ 2 ^ p) <;> rfl
    · cases u.testBit (k - 2 ^ p) <;> rfl
  · rw [decide_eq_false h, Bool.false_and] at f ⊢
    rw [← f]
    rfl
theorem less_at {u p k : Nat} (hp : p < 6) (hk : k < 64) : (lessP u p).testBit k = (!k.testBit p && u.testBit (k ^^^ 2 ^ p)) := by
  unfold lessP
  rw [Nat.testBit_and, Nat.testBit_div_two_pow, low_at hp hk]
  cases h : k.testBit p
  · rw [← bit_in hp hk h]
    cases u.testBit (k + 2 ^ p) <;> rfl
  · cases u.testBit (k + 2 ^ p) <;> cases u.testBit (k ^^^ 2 ^ p) <;> rfl
def closeN : Nat → Nat → Nat
  | 0, u => u
  | m + 1, u => closeN m u ||| withP (closeN m u) m
def restN : Nat → Nat → Nat
  | 0, u => u
  | m + 1, u => withP (restN m u) m ||| lessP (restN m u) m
def moreN : Nat → Nat → Nat
  | 0, _ => 0
  | m + 1, u => moreN m u ||| withP u m
def andNot (u m : Nat) : Nat := u - (u &&& m)
theorem or_of_disj {x y : Nat} (h : x &&& y = 0) : x + y = x ||| y := by
  have := PyProof.Rows.nat_or_add_and x y
  rw [h] at this
  omega
theorem andNot_at (u m k : Nat) : (andNot u m).testBit k = (u.testBit k && !m.testBit k) := by
  have e : andNot u m = u ^^^ (u &&& m) := by
    have h : (u ^^^ (u &&& m)) &&& (u &&& m) = 0 := by
      refine Nat.eq_of_testBit_eq fun i => ?_
      rw [Nat.testBit_and, Nat.testBit_xor, Nat.testBit_and, Nat.zero_testBit]
      cases u.testBit i <;> cases m.testBit i <;> rfl
    have q := or_of_disj h
    have r : (u ^^^ (u &&& m)) ||| (u &&& m) = u := by
      refine Nat.eq_of_testBit_eq fun i => ?_
      rw [Nat.testBit_or, Nat.testBit_xor, Nat.testBit_and]
      cases u.testBit i <;> cases m.testBit i <;> rfl
    unfold andNot
    omega
  rw [e, Nat.testBit_xor, Nat.testBit_and]
  cases u.testBit k <;> cases m.testBit k <;> rfl
theorem close_at {u : Nat} : ∀ {m k : Nat}, m ≤ 6 → k < 64 → ((closeN m u).testBit k = true ↔ ∃ j, u.testBit j = true ∧ (∀ i, j.testBit i = true → k.testBit i = true) ∧ ∀ i, m ≤ i → j.testBit i = k.testBit i)
  | 0, k, _, _ => by
    constructor
    · intro h
      exact ⟨k, h, fun _ x => x, fun _ _ => rfl⟩
    · rintro ⟨j, h1, _, h3⟩
      have e : j = k := Nat.eq_of_testBit_eq fun i => h3 i (Nat.zero_le _)
      rw [← e]
      exact h1
  | m + 1, k, hm, hk => by
    have hm' : m < 6 := hm
    show ((closeN m u ||| withP (closeN m u) m).testBit k = true) ↔ _
    rw [Nat.testBit_or, with_at hm' hk, Bool.or_eq_true, Bool.and_eq_true, close_at (Nat.le_of_lt hm') hk, close_at (Nat.le_of_lt hm') (xor_lt hm' hk)]
    constructor
    · rintro (⟨j, h1, h2, h3⟩ | ⟨h0, j, h1, h2, h3⟩)
      · exact ⟨j, h1, h2, fun i hi => h3 i (by omega)⟩
      · refine ⟨j, h1, fun i hi => ?_, fun i hi => ?_⟩
        · have q := h2 i hi
          rw [xor_at] at q
          by_cases e : m = i
          · rw [← e]
            exact h0
          · rw [decide_eq_false e] at q
            simpa using q
        · have q := h3 i (by omega)
          rw [xor_at, decide_eq_false (by omega)] at q
          simpa using q
    · rintro ⟨j, h1, h2, h3⟩
      by_cases e : j.testBit m = k.testBit m
      · refine .inl ⟨j, h1, h2, fun i hi => ?_⟩
        rcases Nat.eq_or_lt_of_le hi with z | z
        · rw [← z]
          exact e
        · exact h3 i z
      · have ej : j.testBit m = false := by
          cases h : j.testBit m
          · rfl
          · exact absurd (h.trans (h2 m h).symm) e
        have ek : k.testBit m = true := by
          cases h : k.testBit m
          · exact absurd (ej.trans h.symm) e
          · rfl
        refine .inr ⟨ek, j, h1, fun i hi => ?_, fun i hi => ?_⟩
        · rw [xor_at, h2 i hi]
          by_cases z : m = i
          · rw [← z, ej] at hi
            cases hi
          · rw [decide_eq_false z]
            rfl
        · rw [xor_at]
          rcases Nat.eq_or_lt_of_le hi with z | z
          · rw [← z, ej, ek]
            simp
          · rw [h3 i z, decide_eq_false (by omega)]
            cases k.testBit i <;> rfl
theorem rest_at {u : Nat} : ∀ {m k : Nat}, m ≤ 6 → k < 64 → (restN m u).testBit k = u.testBit (k ^^^ (2 ^ m - 1))
  | 0, k, _, _ => by
    show u.testBit k = _
    rw [show 2 ^ 0 - 1 = 0 from rfl, Nat.xor_zero]
  | m + 1, k, hm, hk => by
    have hm' : m < 6 := hm
    show (withP (restN m u) m ||| lessP (restN m u) m).testBit k = _
    rw [Nat.testBit_or, with_at hm' hk, less_at hm' hk, rest_at (Nat.le_of_lt hm') (xor_lt hm' hk)]
    have e : k ^^^ 2 ^ m ^^^ (2 ^ m - 1) = k ^^^ (2 ^ (m + 1) - 1) := by
      have q : ∀ m < 6, 2 ^ m ^^^ (2 ^ m - 1) = 2 ^ (m + 1) - 1 := by decide +kernel
      rw [Nat.xor_assoc, q m hm']
    rw [e]
    cases k.testBit m <;> cases u.testBit (k ^^^ (2 ^ (m + 1) - 1)) <;> rfl
theorem more_at {u : Nat} : ∀ {m k : Nat}, m ≤ 6 → k < 64 → ((moreN m u).testBit k = true ↔ ∃ i, i < m ∧ k.testBit i = true ∧ u.testBit (k ^^^ 2 ^ i) = true)
  | 0, k, _, _ => by
    show (Nat.testBit 0 k = true) ↔ _
    rw [Nat.zero_testBit]
    constructor
    · intro h
      cases h
    · rintro ⟨i, h, _⟩
      omega
  | m + 1, k, hm, hk => by
    have hm' : m < 6 := hm
    show ((moreN m u ||| withP u m).testBit k = true) ↔ _
    rw [Nat.testBit_or, with_at hm' hk, Bool.or_eq_true, Bool.and_eq_true, more_at (Nat.le_of_lt hm') hk]
    constructor
    · rintro (⟨i, h1, h2⟩ | ⟨h1, h2⟩)
      · exact ⟨i, by omega, h2⟩
      · exact ⟨m, by omega, h1, h2⟩
    · rintro ⟨i, h1, h2⟩
      rcases Nat.eq_or_lt_of_le (Nat.lt_succ_iff.mp h1) with z | z
      · subst z
        exact .inr h2
      · exact .inl ⟨i, z, h2⟩
theorem xor_full {n k : Nat} (hn : n ≤ 6) (hk : k < 2 ^ n) : k ^^^ (2 ^ n - 1) = 2 ^ n - (k + 1) := by
  have q : ∀ n < 7, ∀ k < 64, k < 2 ^ n → k ^^^ (2 ^ n - 1) = 2 ^ n - (k + 1) := by decide +kernel
  have : 2 ^ n ≤ 2 ^ 6 := Nat.pow_le_pow_right (by decide) hn
  exact q n (by omega) k (by omega) hk
/-! ### sums of unlike powers -/
theorem pow_sum_at : ∀ {ks : List Nat}, ks.Nodup → ∀ j, ((ks.map fun k => 2 ^ k).sum).testBit j = decide (j ∈ ks)
  | [], _, j => by
    show Nat.testBit 0 j = _
    rw [Nat.zero_testBit]
    rfl
  | k :: ks, h, j => by
    have ih := pow_sum_at (List.nodup_cons.mp h).2
    have hk := (List.nodup_cons.mp h).1
    rw [List.map_cons, List.sum_cons]
    have dj : 2 ^ k &&& (ks.map fun k => 2 ^ k).sum = 0 := by
      refine Nat.eq_of_testBit_eq fun i => ?_
      rw [Nat.testBit_and, ih i, Nat.testBit_two_pow, Nat.zero_testBit]
      by_cases e : k = i
      · rw [← e, decide_eq_false hk, Bool.and_false]
      · rw [decide_eq_false e, Bool.false_and]
    rw [or_of_disj dj, Nat.testBit_or, ih j, Nat.testBit_two_pow]
    by_cases e : k = j
    · subst e
      simp
    · by_cases m : j ∈ ks
      · simp [m]
      · simp [m, e, Ne.symm e]
end Rk
/-! tables: two words that settle the kind, and the bits -/
namespace Rk
open L2
/-- two least lots with nobody in common -/
def Dj (t : List (List Int)) : Prop := ∃ a ∈ t, ∃ b ∈ t, ∀ p ∈ a, p ∉ b
/-- however the folk are parted in two, one part carries -/
def Ou (t : List (List Int)) : Prop := ∀ χ : Int → Bool, ∃ a ∈ t, (∀ p ∈ a, χ p = true) ∨ ∀ p ∈ a, χ p = false
def bitsN (l : List Int) : Nat := (l.map fun p => 2 ^ p.toNat).sum
def lotBy (k : Nat) : List Int := (rng 6).filter fun p => k.testBit p.toNat
def upN (n : Nat) (t : List (List Int)) : Nat := closeN n ((t.map fun l => 2 ^ bitsN l).sum)
def cK (t : List (List Int)) (k : Nat) : Prop := ∃ l ∈ t, ∀ p ∈ l, k.testBit p.toNat = true
def cmp (n k : Nat) : Nat := 2 ^ n - (k + 1)
theorem asc_ext : ∀ {l m : List Int}, l.Pairwise (· < ·) → m.Pairwise (· < ·) → (∀ p, p ∈ l ↔ p ∈ m) → l = m
  | [], [], _, _, _ => rfl
  | [], y :: m, _, _, h => by
    have := (h y).mpr List.mem_cons_self
    cases this
  | x :: l, [], _, _, h => by
    have := (h x).mp List.mem_cons_self
    cases this
  | x :: l, y :: m, hl, hm, h => by
    have hl' := List.pairwise_cons.mp hl
    have hm' := List.pairwise_cons.mp hm
    have e : x = y := by
      rcases List.mem_cons.mp ((h x).mp List.mem_cons_self) with z | z
      · exact z
      · rcases List.mem_cons.mp ((h y).mpr List.mem_cons_self) with w | w
        · exact w.symm
        · have a := hm'.1 x z
          have b := hl'.1 y w
          omega
    subst e
    rw [asc_ext hl'.2 hm'.2 fun p => ?_]
    constructor
    · intro hp
      rcases List.mem_cons.mp ((h p).mp (List.mem_cons_of_mem _ hp)) with z | z
      · have := hl'.1 p hp
        omega
      · exact z
    · intro hp
      rcases List.mem_cons.mp ((h p).mpr (List.mem_cons_of_mem _ hp)) with z | z
      · have := hm'.1 p hp
        omega
      · exact z
theorem lot_nd {n : Int} {l : List Int} (h : IsLot n l) : (l.map Int.toNat).Nodup := by
  refine List.pairwise_map.mpr (List.Pairwise.imp_of_mem (fun {a b} ha hb hab => ?_) h.1)
  have := h.2 a ha
  have := h.2 b hb
  omega
theorem bits_at {n : Int} {l : List Int} (h : IsLot n l) (i : Nat) : (bitsN l).testBit i = decide ((i : Int) ∈ l) := by
  have e : bitsN l = ((l.map Int.toNat).map fun k => 2 ^ k).sum := by
    unfold bitsN
    rw [List.map_map]
    rfl
  rw [e, pow_sum_at (lot_nd h)]
  refine decide_eq_decide.mpr ?_
  rw [List.mem_map]
  constructor
  · rintro ⟨p, hp, rfl⟩
    have := (h.2 p hp).1
    rw [Int.toNat_of_nonneg this]
    exact hp
  · intro hp
    exact ⟨_, hp, by simp⟩
theorem tb_lt {k n i : Nat} (hk : k < 2 ^ n) (hi : k.testBit i = true) : i < n := by
  rcases Nat.lt_or_ge i n with h | h
  · exact h
  · have := Nat.testBit_lt_two_pow (Nat.lt_of_lt_of_le hk (Nat.pow_le_pow_right (by decide) h))
    rw [this] at hi
    cases hi
theorem bits_lt {n : Nat} {l : List Int} (h : IsLot n l) : bitsN l < 2 ^ n := by
  refine Nat.lt_pow_two_of_testBit _ fun i hi => ?_
  rw [bits_at h]
  refine decide_eq_false fun q => ?_
  have := (h.2 _ q).2
  omega
theorem mem_lotBy {k : Nat} {p : Int} : p ∈ lotBy k ↔ (0 ≤ p ∧ p < 6) ∧ k.testBit p.toNat = true := by
  unfold lotBy
  rw [List.mem_filter, mem_rng]
theorem lotBy_lot {n k : Nat} (hk : k < 2 ^ n) : IsLot n (lotBy k) := by
  refine ⟨(rng_asc 6).filter _, fun p hp => ?_⟩
  obtain ⟨⟨h0, _⟩, h⟩ := mem_lotBy.mp hp
  have := tb_lt hk h
  omega
theorem two6 {n : Nat} (h : n ≤ 6) : 2 ^ n ≤ 64 := Nat.pow_le_pow_right (by decide) h
theorem lotBy_bits {n : Nat} {l : List Int} (h6 : n ≤ 6) (h : IsLot n l) : lotBy (bitsN l) = l := by
  refine asc_ext (lotBy_lot (n := n) (bits_lt h)).1 h.1 fun p => ?_
  rw [mem_lotBy, bits_at h]
  constructor
  · rintro ⟨⟨h0, _⟩, hd⟩
    have := of_decide_eq_true hd
    rw [Int.toNat_of_nonneg h0] at this
    exact this
  · intro hp
    have := h.2 p hp
    refine ⟨by omega, decide_eq_true ?_⟩
    rw [Int.toNat_of_nonneg this.1]
    exact hp
theorem bits_lotBy {n k : Nat} (h6 : n ≤ 6) (hk : k < 2 ^ n) : bitsN (lotBy k) = k := by
  refine Nat.eq_of_testBit_eq fun i => ?_
  rw [bits_at (lotBy_lot hk)]
  cases h : k.testBit i
  · refine decide_eq_false fun q => ?_
    have := (mem_lotBy.mp q).2
    rw [Int.toNat_natCast, h] at this
    cases this
  · have := tb_lt hk h
    exact decide_eq_true (mem_lotBy.mpr ⟨by omega, by rw [Int.toNat_natCast]; exact h⟩)
theorem tab_nd {n : Int} {t : List (List Int)} (h : IsTab n t) : t.Nodup := h.asc.imp fun {a b} hab e => by
  subst e
  have q : ∀ l : List Int, HT.lexLt l l = false := fun l => by
    induction l with
    | nil => rfl
    | cons x l ih => rw [HT.lexLt_cons, if_pos rfl, ih]
  rw [q] at hab
  cases hab
theorem base_at {n : Nat} {t : List (List Int)} (h6 : n ≤ 6) (h : IsTab n t) (j : Nat) : ((t.map fun l => 2 ^ bitsN l).sum).testBit j = true ↔ ∃ l ∈ t, bitsN l = j := by
  have e : (t.map fun l => 2 ^ bitsN l) = (t.map bitsN).map fun k => 2 ^ k := by
    rw [List.map_map]
    rfl
  have nd : (t.map bitsN).Nodup := List.pairwise_map.mpr (List.Pairwise.imp_of_mem (fun {a b} ha hb hab q => hab (by
    rw [← lotBy_bits h6 (h.lots a ha), ← lotBy_bits h6 (h.lots b hb), q])) (tab_nd h))
  rw [e, pow_sum_at nd, decide_eq_true_eq, List.mem_map]
theorem up_at {n k : Nat} {t : List (List Int)} (h6 : n ≤ 6) (h : IsTab n t) (hk : k < 2 ^ n) : (upN n t).testBit k = true ↔ cK t k := by
  unfold upN
  rw [close_at h6 (Nat.lt_of_lt_of_le hk (two6 h6))]
  constructor
  · rintro ⟨j, h1, h2, _⟩
    obtain ⟨l, hl, rfl⟩ := (base_at h6 h j).mp h1
    refine ⟨l, hl, fun p hp => h2 _ ?_⟩
    rw [bits_at (h.lots l hl)]
    have := (h.lots l hl).2 p hp
    rw [Int.toNat_of_nonneg this.1]
    exact decide_eq_true hp
  · rintro ⟨l, hl, hp⟩
    refine ⟨bitsN l, (base_at h6 h _).mpr ⟨l, hl, rfl⟩, fun i hi => ?_, fun i hi => ?_⟩
    · rw [bits_at (h.lots l hl)] at hi
      have := hp _ (of_decide_eq_true hi)
      rw [Int.toNat_natCast] at this
      exact this
    · have q : ∀ x, x < 2 ^ n → x.testBit i = false := fun x hx => by
        cases z : x.testBit i
        · rfl
        · have := tb_lt hx z
          omega
      rw [q _ (bits_lt (h.lots l hl)), q _ hk]
theorem with_lt {u p : Nat} (hp : p < 6) : withP u p < 2 ^ 64 := by
  have q : ∀ p < 6, lowN p * 2 ^ (2 ^ p) < 2 ^ 64 := by decide +kernel
  exact Nat.lt_of_le_of_lt (Nat.mul_le_mul_right _ Nat.and_le_right) (q p hp)
theorem close_lt : ∀ {m u : Nat}, m ≤ 6 → u < 2 ^ 64 → closeN m u < 2 ^ 64
  | 0, _, _, h => h
  | m + 1, u, hm, h => Nat.or_lt_two_pow (close_lt (Nat.le_of_succ_le hm) h) (with_lt hm)
theorem base_lt {n : Nat} {t : List (List Int)} (h6 : n ≤ 6) (h : IsTab n t) : (t.map fun l => 2 ^ bitsN l).sum < 2 ^ (2 ^ n) := by
  refine Nat.lt_pow_two_of_testBit _ fun i hi => ?_
  cases z : ((t.map fun l => 2 ^ bitsN l).sum).testBit i
  · rfl
  · obtain ⟨l, hl, rfl⟩ := (base_at h6 h i).mp z
    have := bits_lt (h.lots l hl)
    omega
theorem up_lt {n : Nat} {t : List (List Int)} (h6 : n ≤ 6) (h : IsTab n t) : upN n t < 2 ^ (2 ^ n) := by
  have h64 : 2 ^ (2 ^ n) ≤ 2 ^ 64 := Nat.pow_le_pow_right (by decide) (two6 h6)
  refine Nat.lt_pow_two_of_testBit _ fun k hk => ?_
  cases z : (upN n t).testBit k
  · rfl
  · exfalso
    have k64 : k < 64 := tb_lt (close_lt h6 (Nat.lt_of_lt_of_le (base_lt h6 h) h64)) z
    obtain ⟨j, h1, _, h3⟩ := (close_at h6 k64).mp z
    have hj := tb_lt (base_lt h6 h) h1
    have : k < 2 ^ n := Nat.lt_pow_two_of_testBit _ fun i hi => by
      rw [← h3 i hi]
      cases y : j.testBit i
      · rfl
      · have := tb_lt hj y
        omega
    omega
theorem cmp_at {n k i : Nat} (hk : k < 2 ^ n) : (cmp n k).testBit i = (decide (i < n) && !k.testBit i) := Nat.testBit_two_pow_sub_succ hk i
theorem cmp_lt (n k : Nat) : cmp n k < 2 ^ n := by
  unfold cmp
  have := Nat.two_pow_pos n
  omega
theorem cmp_cmp {n k : Nat} (hk : k < 2 ^ n) : cmp n (cmp n k) = k := by
  unfold cmp
  omega
theorem tab_nat {n : Nat} {t : List (List Int)} (h : IsTab n t) {l : List Int} (hl : l ∈ t) {p : Int} (hp : p ∈ l) : 0 ≤ p ∧ p.toNat < n := by
  have := (h.lots l hl).2 p hp
  omega
theorem dj_iff {n : Nat} {t : List (List Int)} (h : IsTab n t) : Dj t ↔ ∃ k, k < 2 ^ n ∧ cK t k ∧ cK t (cmp n k) := by
  constructor
  · rintro ⟨a, ha, b, hb, hab⟩
    have la := h.lots a ha
    refine ⟨bitsN a, bits_lt la, ⟨a, ha, fun p hp => ?_⟩, b, hb, fun p hp => ?_⟩
    · rw [bits_at la, Int.toNat_of_nonneg (tab_nat h ha hp).1]
      exact decide_eq_true hp
    · rw [cmp_at (bits_lt la), bits_at la, Int.toNat_of_nonneg (tab_nat h hb hp).1, decide_eq_true (tab_nat h hb hp).2, decide_eq_false fun q => hab p q hp]
      rfl
  · rintro ⟨k, hk, ⟨a, ha, h1⟩, b, hb, h2⟩
    refine ⟨a, ha, b, hb, fun p hp hq => ?_⟩
    have e1 := h1 p hp
    have e2 := h2 p hq
    rw [cmp_at hk, e1, Bool.not_true, Bool.and_false] at e2
    cases e2
theorem ou_iff {n : Nat} {t : List (List Int)} (h : IsTab n t) : Ou t ↔ ∀ k, k < 2 ^ n → cK t k ∨ cK t (cmp n k) := by
  constructor
  · intro hO k hk
    obtain ⟨a, ha, h1 | h1⟩ := hO fun p => k.testBit p.toNat
    · exact .inl ⟨a, ha, h1⟩
    · refine .inr ⟨a, ha, fun p hp => ?_⟩
      rw [cmp_at hk, h1 p hp, decide_eq_true (tab_nat h ha hp).2]
      rfl
  · intro hk χ
    have lk : IsLot n ((rng n).filter χ) := ⟨(rng_asc n).filter _, fun p hp => mem_rng.mp (List.mem_filter.mp hp).1⟩
    have mem : ∀ {a : List Int}, a ∈ t → ∀ p ∈ a, (bitsN ((rng n).filter χ)).testBit p.toNat = χ p := fun {a} ha p hp => by
      rw [bits_at lk, Int.toNat_of_nonneg (tab_nat h ha hp).1]
      have := (h.lots a ha).2 p hp
      cases z : χ p
      · exact decide_eq_false fun q => by
          rw [(List.mem_filter.mp q).2] at z
          cases z
      · exact decide_eq_true (List.mem_filter.mpr ⟨mem_rng.mpr this, z⟩)
    rcases hk _ (bits_lt lk) with ⟨a, ha, h1⟩ | ⟨a, ha, h1⟩
    · exact ⟨a, ha, .inl fun p hp => by rw [← mem ha p hp]; exact h1 p hp⟩
    · refine ⟨a, ha, .inr fun p hp => ?_⟩
      have q := h1 p hp
      rw [cmp_at (bits_lt lk), mem ha p hp, decide_eq_true (tab_nat h ha hp).2] at q
      cases z : χ p
      · rfl
      · rw [z] at q
        cases q
/-! ### the words by the bits -/
theorem round_iff {n : Nat} {t : List (List Int)} (h6 : n ≤ 6) (h : IsTab n t) : (upN n t &&& restN n (upN n t) = 0) ↔ ¬ Dj t := by
  rw [dj_iff h]
  constructor
  · rintro e ⟨k, hk, h1, h2⟩
    have q : (upN n t &&& restN n (upN n t)).testBit k = true := by
      rw [Nat.testBit_and, rest_at h6 (Nat.lt_of_lt_of_le hk (two6 h6)), xor_full h6 hk, (up_at h6 h hk).mpr h1]
      exact (up_at h6 h (cmp_lt n k)).mpr h2
    rw [e, Nat.zero_testBit] at q
    cases q
  · intro hn
    refine Nat.eq_of_testBit_eq fun k => ?_
    rw [Nat.zero_testBit]
    cases z : (upN n t &&& restN n (upN n t)).testBit k
    · rfl
    · exfalso
      rw [Nat.testBit_and, Bool.and_eq_true] at z
      have hk := tb_lt (up_lt h6 h) z.1
      rw [rest_at h6 (Nat.lt_of_lt_of_le hk (two6 h6)), xor_full h6 hk] at z
      exact hn ⟨k, hk, (up_at h6 h hk).mp z.1, (up_at h6 h (cmp_lt n k)).mp z.2⟩
def allN (n : Nat) : Nat := 2 ^ (2 ^ n) - 1
def turnN (n u : Nat) : Nat := andNot (allN n) (restN n u)
theorem turn_at {n k : Nat} {t : List (List Int)} (h6 : n ≤ 6) (h : IsTab n t) : (turnN n (upN n t)).testBit k = true ↔ k < 2 ^ n ∧ ¬ cK t (cmp n k) := by
  unfold turnN allN
  rw [andNot_at, Nat.testBit_two_pow_sub_one, Bool.and_eq_true, decide_eq_true_eq, Bool.not_eq_true']
  constructor
  · rintro ⟨hk, h1⟩
    rw [rest_at h6 (Nat.lt_of_lt_of_le hk (two6 h6)), xor_full h6 hk] at h1
    refine ⟨hk, fun q => ?_⟩
    have := (up_at h6 h (cmp_lt n k)).mpr q
    have h1' : (upN n t).testBit (cmp n k) = false := h1
    rw [this] at h1'
    cases h1'
  · rintro ⟨hk, h1⟩
    refine ⟨hk, ?_⟩
    rw [rest_at h6 (Nat.lt_of_lt_of_le hk (two6 h6)), xor_full h6 hk]
    cases z : (upN n t).testBit (2 ^ n - (k + 1))
    · rfl
    · exact absurd ((up_at h6 h (cmp_lt n k)).mp z) h1
theorem turn_iff {n : Nat} {t : List (List Int)} (h6 : n ≤ 6) (h : IsTab n t) : turnN n (upN n t) = upN n t ↔ ¬ Dj t ∧ Ou t := by
  have eqv : turnN n (upN n t) = upN n t ↔ ∀ k, k < 2 ^ n → (¬ cK t (cmp n k) ↔ cK t k) := by
    constructor
    · intro e k hk
      rw [← up_at h6 h hk, ← e, turn_at h6 h]
      exact ⟨fun q => ⟨hk, q⟩, fun q => q.2⟩
    · intro hh
      refine Nat.eq_of_testBit_eq fun k => ?_
      rw [Bool.eq_iff_iff, turn_at h6 h]
      constructor
      · rintro ⟨hk, q⟩
        exact (up_at h6 h hk).mpr ((hh k hk).mp q)
      · intro q
        have hk := tb_lt (up_lt h6 h) q
        exact ⟨hk, (hh k hk).mpr ((up_at h6 h hk).mp q)⟩
  rw [eqv, dj_iff h, ou_iff h]
  constructor
  · intro hh
    refine ⟨?_, fun k hk => ?_⟩
    · rintro ⟨k, hk, h1, h2⟩
      exact (hh k hk).mpr h1 h2
    · by_cases q : cK t (cmp n k)
      · exact .inr q
      · exact .inl ((hh k hk).mp q)
  · rintro ⟨hn, ho⟩ k hk
    constructor
    · intro q
      rcases ho k hk with z | z
      · exact z
      · exact absurd z q
    · intro q z
      exact hn ⟨k, hk, q, z⟩
end Rk
/-! the least lots; tables renamed; what the law asks of lots -/
namespace Rk
open L2
/-! ### lists in the lots' order -/
theorem lex_ext : ∀ {l m : List (List Int)}, l.Pairwise (fun x y => HT.lexLt x y = true) → m.Pairwise (fun x y => HT.lexLt x y = true) → (∀ p, p ∈ l ↔ p ∈ m) → l = m
  | [], [], _, _, _ => rfl
  | [], y :: m, _, _, h => by
    have := (h y).mpr List.mem_cons_self
    cases this
  | x :: l, [], _, _, h => by
    have := (h x).mp List.mem_cons_self
    cases this
  | x :: l, y :: m, hl, hm, h => by
    have hl' := List.pairwise_cons.mp hl
    have hm' := List.pairwise_cons.mp hm
    have e : x = y := by
      rcases List.mem_cons.mp ((h x).mp List.mem_cons_self) with z | z
      · exact z
      · rcases List.mem_cons.mp ((h y).mpr List.mem_cons_self) with w | w
        · exact w.symm
        · have a := lex_asym _ _ (hm'.1 x z)
          rw [hl'.1 y w] at a
          cases a
    subst e
    have no : ∀ {k : List (List Int)}, (∀ y ∈ k, HT.lexLt x y = true) → ∀ p ∈ k, p ≠ x := fun {k} hk p hp q => by
      have := hk p hp
      rw [q, lex_irr] at this
      cases this
    rw [lex_ext hl'.2 hm'.2 fun p => ?_]
    constructor
    · intro hp
      rcases List.mem_cons.mp ((h p).mp (List.mem_cons_of_mem _ hp)) with z | z
      · exact absurd z (no hl'.1 p hp)
      · exact z
    · intro hp
      rcases List.mem_cons.mp ((h p).mpr (List.mem_cons_of_mem _ hp)) with z | z
      · exact absurd z (no hm'.1 p hp)
      · exact z
theorem lex_strict {l : List (List Int)} (nd : l.Nodup) (h : l.Pairwise fun x y => HT.lexLt y x = false) : l.Pairwise fun x y => HT.lexLt x y = true := by
  refine (nd.and h).imp fun {x y} q => ?_
  cases z : HT.lexLt x y
  · exact absurd (lex_conn x y z q.2) q.1
  · rfl
/-- lots that are no parts of one another, in order, are a table -/
theorem tab_of {n : Int} {ls t : List (List Int)} (hl : ∀ l ∈ ls, IsLot n l) (nd : ls.Nodup) (ha : ∀ a ∈ ls, ∀ b ∈ ls, a ≠ b → partB a b = false) (pm : t.Perm ls) (hs : t.Pairwise fun x y => HT.lexLt y x = false) : IsTab n t := by
  have nt : t.Nodup := pm.nodup_iff.mpr nd
  refine ⟨fun l h => hl l (pm.mem_iff.mp h), lex_strict nt hs, List.Pairwise.imp_of_mem (fun {a b} ma mb q => ?_) nt⟩
  have ma' := pm.mem_iff.mp ma
  have mb' := pm.mem_iff.mp mb
  exact ⟨ha a ma' b mb' q, ha b mb' a ma' fun e => q e.symm⟩
theorem tab_anti {n : Int} {t : List (List Int)} (h : IsTab n t) {a b : List Int} (ha : a ∈ t) (hb : b ∈ t) (ne : a ≠ b) : partB a b = false := by
  have key : ∀ {t : List (List Int)}, t.Pairwise (fun x y => partB x y = false ∧ partB y x = false) → a ∈ t → b ∈ t → partB a b = false := by
    intro t
    induction t with
    | nil => intro _ h; cases h
    | cons x t ih =>
      intro hp h1 h2
      have hp' := List.pairwise_cons.mp hp
      rcases List.mem_cons.mp h1 with z | z
      · rcases List.mem_cons.mp h2 with w | w
        · exact absurd (z.trans w.symm) ne
        · rw [z]
          exact (hp'.1 b w).1
      · rcases List.mem_cons.mp h2 with w | w
        · rw [w]
          exact (hp'.1 a z).2
        · exact ih hp'.2 z w
  exact key h.anti ha hb
theorem part_iff {l m : List Int} : partB l m = true ↔ ∀ p ∈ l, p ∈ m := by
  unfold partB
  rw [List.all_eq_true]
  constructor
  · intro h p hp
    have := h p hp
    simpa using this
  · intro h p hp
    simpa using h p hp
theorem meets_iff {l m : List Int} : meetsB l m = true ↔ ∃ p ∈ l, p ∈ m := by
  unfold meetsB
  rw [List.any_eq_true]
  constructor
  · rintro ⟨p, hp, h⟩
    exact ⟨p, hp, by simpa using h⟩
  · rintro ⟨p, hp, h⟩
    exact ⟨p, hp, by simpa using h⟩
theorem car_iff {t : List (List Int)} {m : List Int} : carB t m = true ↔ ∃ l ∈ t, ∀ p ∈ l, p ∈ m := by
  unfold carB
  rw [List.any_eq_true]
  constructor
  · rintro ⟨p, hp, h⟩
    exact ⟨p, hp, part_iff.mp h⟩
  · rintro ⟨p, hp, h⟩
    exact ⟨p, hp, part_iff.mpr h⟩
theorem tab_len {n : Nat} {t : List (List Int)} (h6 : n ≤ 6) (h : IsTab n t) : t.length ≤ 64 := by
  have nd : (t.map bitsN).Nodup := List.pairwise_map.mpr (List.Pairwise.imp_of_mem (fun {a b} ha hb hab q => hab (by
    rw [← lotBy_bits h6 (h.lots a ha), ← lotBy_bits h6 (h.lots b hb), q])) (tab_nd h))
  have q := nat_nodup_len (t.map bitsN) (List.range 64) nd fun x hx => by
    obtain ⟨l, hl, rfl⟩ := List.mem_map.mp hx
    exact List.mem_range.mpr (Nat.lt_of_lt_of_le (bits_lt (h.lots l hl)) (two6 h6))
  rw [List.length_map, List.length_range] at q
  exact q
theorem tab_lots {n : Nat} {t : List (List Int)} (h6 : n ≤ 6) (h : IsTab n t) : ∀ l ∈ t, l.length ≤ 1000 := fun l hl => Nat.le_trans (lot_len (h.lots l hl) (by omega)) (by decide)
/-! ### the least of what carries -/
def leastN (n u : Nat) : Nat := andNot u (moreN n u)
def minT (n u : Nat) : List Nat := (List.range (2 ^ n)).filter fun k => (leastN n u).testBit k
theorem least_at {n u k : Nat} (h6 : n ≤ 6) (hk : k < 2 ^ n) : (leastN n u).testBit k = true ↔ u.testBit k = true ∧ ∀ i, i < n → k.testBit i = true → u.testBit (k ^^^ 2 ^ i) = false := by
  unfold leastN
  rw [andNot_at, Bool.and_eq_true, Bool.not_eq_true']
  have m := more_at (u := u) h6 (Nat.lt_of_lt_of_le hk (two6 h6))
  constructor
  · rintro ⟨h1, h2⟩
    refine ⟨h1, fun i hi hb => ?_⟩
    cases z : u.testBit (k ^^^ 2 ^ i)
    · rfl
    · rw [m.mpr ⟨i, hi, hb, z⟩] at h2
      cases h2
  · rintro ⟨h1, h2⟩
    refine ⟨h1, ?_⟩
    cases z : (moreN n u).testBit k
    · rfl
    · obtain ⟨i, hi, hb, hu⟩ := m.mp z
      rw [h2 i hi hb] at hu
      cases hu
theorem mem_min {n u k : Nat} (h6 : n ≤ 6) : k ∈ minT n u ↔ k < 2 ^ n ∧ u.testBit k = true ∧ ∀ i, i < n → k.testBit i = true → u.testBit (k ^^^ 2 ^ i) = false := by
  unfold minT
  rw [List.mem_filter, List.mem_range]
  constructor
  · rintro ⟨h1, h2⟩
    exact ⟨h1, (least_at h6 h1).mp h2⟩
  · rintro ⟨h1, h2⟩
    exact ⟨h1, (least_at h6 h1).mpr h2⟩
theorem xor_sub {k i j : Nat} (hi : k.testBit i = true) : (k ^^^ 2 ^ i).testBit j = true ↔ k.testBit j = true ∧ j ≠ i := by
  rw [xor_at]
  by_cases e : i = j
  · subst e
    rw [hi]
    simp
  · rw [decide_eq_false e]
    cases k.testBit j <;> simp [Ne.symm e]
theorem xor_less {n k i : Nat} (hk : k < 2 ^ n) (hi : k.testBit i = true) : k ^^^ 2 ^ i < 2 ^ n := Nat.lt_pow_two_of_testBit _ fun j hj => by
  cases z : (k ^^^ 2 ^ i).testBit j
  · rfl
  · have := tb_lt hk ((xor_sub hi).mp z).1
    omega
/-- below all that carries stands a least one -/
theorem min_below {n u : Nat} (h6 : n ≤ 6) : ∀ k, k < 2 ^ n → u.testBit k = true → ∃ j ∈ minT n u, ∀ i, j.testBit i = true → k.testBit i = true := by
  intro k
  induction k using Nat.strongRecOn with
  | ind k ih =>
    intro hk hu
    by_cases h : ∃ i, i < n ∧ k.testBit i = true ∧ u.testBit (k ^^^ 2 ^ i) = true
    · obtain ⟨i, hi, hb, hx⟩ := h
      have lt : k ^^^ 2 ^ i < k := by
        rw [← bit_out (by omega) (Nat.lt_of_lt_of_le hk (two6 h6)) hb]
        have := Nat.ge_two_pow_of_testBit hb
        have := Nat.two_pow_pos i
        omega
      obtain ⟨j, hj, hs⟩ := ih _ lt (xor_less hk hb) hx
      exact ⟨j, hj, fun m hm => ((xor_sub hb).mp (hs m hm)).1⟩
    · refine ⟨k, (mem_min h6).mpr ⟨hk, hu, fun i hi hb => ?_⟩, fun _ x => x⟩
      cases z : u.testBit (k ^^^ 2 ^ i)
      · rfl
      · exact absurd ⟨i, hi, hb, z⟩ h
theorem min_nd {n u : Nat} (h6 : n ≤ 6) : ((minT n u).map lotBy).Nodup := by
  refine List.pairwise_map.mpr (List.Pairwise.imp_of_mem (fun {a b} ha hb hab q => hab ?_) (List.nodup_range.filter _ : (minT n u).Nodup))
  rw [← bits_lotBy h6 ((mem_min h6).mp ha).1, ← bits_lotBy h6 ((mem_min h6).mp hb).1, q]
theorem lot_sub {n k : Nat} (hk : k < 2 ^ n) (h6 : n ≤ 6) {l : List Int} (h : IsLot n l) : (∀ p ∈ l, k.testBit p.toNat = true) ↔ ∀ i, (bitsN l).testBit i = true → k.testBit i = true := by
  constructor
  · intro q i hi
    rw [bits_at h] at hi
    have := q _ (of_decide_eq_true hi)
    rw [Int.toNat_natCast] at this
    exact this
  · intro q p hp
    refine q _ ?_
    rw [bits_at h, Int.toNat_of_nonneg (h.2 p hp).1]
    exact decide_eq_true hp
/-- the least lots by which a table's own lots carry are the table -/
theorem min_up {n : Nat} {t : List (List Int)} (h6 : n ≤ 6) (h : IsTab n t) (l : List Int) : l ∈ (minT n (upN n t)).map lotBy ↔ l ∈ t := by
  rw [List.mem_map]
  constructor
  · rintro ⟨k, hk, rfl⟩
    obtain ⟨k1, k2, k3⟩ := (mem_min h6).mp hk
    obtain ⟨l, hl, hp⟩ := (up_at h6 h k1).mp k2
    have hs := (lot_sub k1 h6 (h.lots l hl)).mp hp
    have e : bitsN l = k := by
      refine Nat.eq_of_testBit_eq fun i => ?_
      cases z : k.testBit i
      · cases y : (bitsN l).testBit i
        · rfl
        · rw [hs i y] at z
          cases z
      · cases y : (bitsN l).testBit i
        · exfalso
          have c := k3 i (tb_lt k1 z) z
          have : (upN n t).testBit (k ^^^ 2 ^ i) = true := (up_at h6 h (xor_less k1 z)).mpr ⟨l, hl, (lot_sub (xor_less k1 z) h6 (h.lots l hl)).mpr fun j hj => (xor_sub z).mpr ⟨hs j hj, fun q => by
            rw [q, y] at hj
            cases hj⟩⟩
          rw [this] at c
          cases c
        · rfl
    rw [← e, lotBy_bits h6 (h.lots l hl)]
    exact hl
  · intro hl
    have ll := h.lots l hl
    refine ⟨bitsN l, (mem_min h6).mpr ⟨bits_lt ll, (up_at h6 h (bits_lt ll)).mpr ⟨l, hl, (lot_sub (bits_lt ll) h6 ll).mpr fun _ x => x⟩, fun i hi hb => ?_⟩, lotBy_bits h6 ll⟩
    cases z : (upN n t).testBit (bitsN l ^^^ 2 ^ i)
    · rfl
    · exfalso
      obtain ⟨m, hm, hp⟩ := (up_at h6 h (xor_less (bits_lt ll) hb)).mp z
      have sub : ∀ p ∈ m, p ∈ l ∧ p ≠ (i : Int) := fun p hp' => by
        have q := (xor_sub hb).mp (hp p hp')
        rw [bits_at ll, Int.toNat_of_nonneg ((h.lots m hm).2 p hp').1] at q
        refine ⟨of_decide_eq_true q.1, fun e => q.2 ?_⟩
        rw [e, Int.toNat_natCast]
      have hil : (i : Int) ∈ l := by
        rw [bits_at ll] at hb
        exact of_decide_eq_true hb
      have ne : m ≠ l := fun e => (sub i (by rw [e]; exact hil)).2 rfl
      have := tab_anti h hm hl ne
      rw [part_iff.mpr fun p hp' => (sub p hp').1] at this
      cases this
theorem turned_eq {n : Nat} {t t2 : List (List Int)} (h6 : n ≤ 6) (h : IsTab n t) (pm : t2.Perm ((minT n (turnN n (upN n t))).map lotBy)) (hs : t2.Pairwise fun x y => HT.lexLt y x = false) : t2 = t ↔ ¬ Dj t ∧ Ou t := by
  rw [← turn_iff h6 h]
  constructor
  · intro e
    refine Nat.eq_of_testBit_eq fun k => ?_
    rw [Bool.eq_iff_iff]
    constructor
    · intro hv
      have hk := ((turn_at h6 h).mp hv).1
      obtain ⟨j, hj, hsub⟩ := min_below h6 k hk hv
      have hjt : lotBy j ∈ t := by
        rw [← e]
        exact pm.mem_iff.mpr (List.mem_map.mpr ⟨j, hj, rfl⟩)
      refine (up_at h6 h hk).mpr ⟨_, hjt, fun p hp => hsub _ (mem_lotBy.mp hp).2⟩
    · intro hu
      have hk := tb_lt (up_lt h6 h) hu
      obtain ⟨l, hl, hp⟩ := (up_at h6 h hk).mp hu
      rw [← e] at hl
      obtain ⟨j, hj, rfl⟩ := List.mem_map.mp (pm.mem_iff.mp hl)
      obtain ⟨j1, j2, _⟩ := (mem_min h6).mp hj
      have hv := (turn_at h6 h).mp j2
      refine (turn_at h6 h).mpr ⟨hk, fun q => hv.2 ?_⟩
      obtain ⟨m, hm, hq⟩ := q
      refine ⟨m, hm, fun p hp' => ?_⟩
      have z := hq p hp'
      rw [cmp_at hk, Bool.and_eq_true, decide_eq_true_eq, Bool.not_eq_true'] at z
      rw [cmp_at j1, Bool.and_eq_true, decide_eq_true_eq, Bool.not_eq_true']
      refine ⟨z.1, ?_⟩
      cases y : j.testBit p.toNat
      · rfl
      · have hb := bits_lotBy h6 j1
        have hls := (lot_sub hk h6 (lotBy_lot j1)).mp hp
        rw [hb] at hls
        rw [hls _ y] at z
        cases z.2
  · intro e
    rw [e] at pm
    have nd := pm.nodup_iff.mpr (min_nd h6)
    exact lex_ext (lex_strict nd hs) h.asc fun l => by rw [pm.mem_iff, min_up h6 h]
/-! ### the folk renamed -/
theorem ren_ok {n : Int} {t t' : List (List Int)} {π : Int → Int} {f : List Int → List Int} (h : IsTab n t) (hr : ∀ p, 0 ≤ p → p < n → 0 ≤ π p ∧ π p < n) (hi : ∀ p q, 0 ≤ p → p < n → 0 ≤ q → q < n → π p = π q → p = q)
    (hf : ∀ l ∈ t, (f l).Perm (l.map π) ∧ (f l).Pairwise (· ≤ ·)) (pm : t'.Perm (t.map f)) (hs : t'.Pairwise fun x y => HT.lexLt y x = false) : IsTab n t' ∧ (Dj t' ↔ Dj t) ∧ (Ou t' ↔ Ou t) := by
  have mem : ∀ l ∈ t, ∀ p, 0 ≤ p → p < n → (π p ∈ f l ↔ p ∈ l) := fun l hl p p0 pn => by
    rw [(hf l hl).1.mem_iff, List.mem_map]
    constructor
    · rintro ⟨q, hq, e⟩
      have := (h.lots l hl).2 q hq
      rw [hi p q p0 pn this.1 this.2 e.symm]
      exact hq
    · intro hp
      exact ⟨p, hp, rfl⟩
  have back : ∀ l ∈ t, ∀ q ∈ f l, ∃ p ∈ l, q = π p ∧ 0 ≤ p ∧ p < n := fun l hl q hq => by
    obtain ⟨p, hp, e⟩ := List.mem_map.mp ((hf l hl).1.mem_iff.mp hq)
    exact ⟨p, hp, e.symm, (h.lots l hl).2 p hp⟩
  have part : ∀ a ∈ t, ∀ b ∈ t, partB (f a) (f b) = true → partB a b = true := fun a ha b hb q => by
    rw [part_iff] at q ⊢
    intro p hp
    have := (h.lots a ha).2 p hp
    exact (mem b hb p this.1 this.2).mp (q _ ((mem a ha p this.1 this.2).mpr hp))
  have lots : ∀ l ∈ t, IsLot n (f l) := fun l hl => by
    refine ⟨?_, fun q hq => ?_⟩
    · have nd : (f l).Nodup := (hf l hl).1.nodup_iff.mpr (List.pairwise_map.mpr (List.Pairwise.imp_of_mem (fun {a b} ha hb hab e => by
        have qa := (h.lots l hl).2 a ha
        have qb := (h.lots l hl).2 b hb
        have := hi a b qa.1 qa.2 qb.1 qb.2 e
        omega) (h.lots l hl).1))
      exact (nd.and (hf l hl).2).imp fun {x y} q => by
        have := q.1
        have := q.2
        omega
    · obtain ⟨p, _, rfl, p0, pn⟩ := back l hl q hq
      exact hr p p0 pn
  have finj : ∀ a ∈ t, ∀ b ∈ t, f a = f b → a = b := fun a ha b hb e => by
    refine asc_ext (h.lots a ha).1 (h.lots b hb).1 fun p => ?_
    constructor
    · intro hp
      have := (h.lots a ha).2 p hp
      rw [← mem b hb p this.1 this.2, ← e]
      exact (mem a ha p this.1 this.2).mpr hp
    · intro hp
      have := (h.lots b hb).2 p hp
      rw [← mem a ha p this.1 this.2, e]
      exact (mem b hb p this.1 this.2).mpr hp
  refine ⟨tab_of (ls := t.map f) (fun l hl => ?_) (List.pairwise_map.mpr (List.Pairwise.imp_of_mem (fun {a b} ha hb hab e => hab (finj a ha b hb e)) (tab_nd h))) (fun a ha b hb ne => ?_) pm hs, ?_, ?_⟩
  · obtain ⟨a, ha, rfl⟩ := List.mem_map.mp hl
    exact lots a ha
  · obtain ⟨a, ha', rfl⟩ := List.mem_map.mp ha
    obtain ⟨b, hb', rfl⟩ := List.mem_map.mp hb
    cases z : partB (f a) (f b)
    · rfl
    · have := tab_anti h ha' hb' fun e => ne (by rw [e])
      rw [part a ha' b hb' z] at this
      cases this
  · constructor
    · rintro ⟨x, hx, y, hy, hd⟩
      obtain ⟨a, ha, rfl⟩ := List.mem_map.mp (pm.mem_iff.mp hx)
      obtain ⟨b, hb, rfl⟩ := List.mem_map.mp (pm.mem_iff.mp hy)
      refine ⟨a, ha, b, hb, fun p hp hq => ?_⟩
      have := (h.lots a ha).2 p hp
      exact hd _ ((mem a ha p this.1 this.2).mpr hp) ((mem b hb p this.1 this.2).mpr hq)
    · rintro ⟨a, ha, b, hb, hd⟩
      refine ⟨f a, pm.mem_iff.mpr (List.mem_map.mpr ⟨a, ha, rfl⟩), f b, pm.mem_iff.mpr (List.mem_map.mpr ⟨b, hb, rfl⟩), fun q hq hq' => ?_⟩
      obtain ⟨p, hp, rfl, p0, pn⟩ := back a ha q hq
      exact hd p hp ((mem b hb p p0 pn).mp hq')
  · constructor
    · intro hO χ
      obtain ⟨x, hx, hc⟩ := hO fun q => (rng n).any fun p => decide (π p = q) && χ p
      obtain ⟨a, ha, rfl⟩ := List.mem_map.mp (pm.mem_iff.mp hx)
      have val : ∀ p ∈ a, ((rng n).any fun r => decide (π r = π p) && χ r) = χ p := fun p hp => by
        have hb := (h.lots a ha).2 p hp
        rw [Bool.eq_iff_iff, List.any_eq_true]
        constructor
        · rintro ⟨r, hr', e⟩
          rw [Bool.and_eq_true, decide_eq_true_eq] at e
          have := mem_rng.mp hr'
          rw [← hi r p this.1 this.2 hb.1 hb.2 e.1]
          exact e.2
        · intro e
          exact ⟨p, mem_rng.mpr hb, by rw [e]; simp⟩
      refine ⟨a, ha, ?_⟩
      rcases hc with c | c
      · refine .inl fun p hp => ?_
        have hb := (h.lots a ha).2 p hp
        rw [← val p hp]
        exact c _ ((mem a ha p hb.1 hb.2).mpr hp)
      · refine .inr fun p hp => ?_
        have hb := (h.lots a ha).2 p hp
        rw [← val p hp]
        exact c _ ((mem a ha p hb.1 hb.2).mpr hp)
    · intro hO χ
      obtain ⟨a, ha, hc⟩ := hO fun p => χ (π p)
      refine ⟨f a, pm.mem_iff.mpr (List.mem_map.mpr ⟨a, ha, rfl⟩), ?_⟩
      rcases hc with c | c
      · refine .inl fun q hq => ?_
        obtain ⟨p, hp, rfl, _⟩ := back a ha q hq
        exact c p hp
      · refine .inr fun q hq => ?_
        obtain ⟨p, hp, rfl, _⟩ := back a ha q hq
        exact c p hp
/-! ### by lots -/
section
variable {n : Int} {t ls : List (List Int)}
theorem dj_lots (h : IsTab n t) (hl : ∀ l, l ∈ ls ↔ IsLot n l) : Dj t ↔ ∃ x ∈ ls.filter fun l => carB t l, ∃ y ∈ ls.filter fun l => carB t l, meetsB x y = false := by
  constructor
  · rintro ⟨a, ha, b, hb, hd⟩
    have me : ∀ c ∈ t, c ∈ ls.filter fun l => carB t l := fun c hc => List.mem_filter.mpr ⟨(hl c).mpr (h.lots c hc), car_iff.mpr ⟨c, hc, fun _ x => x⟩⟩
    refine ⟨a, me a ha, b, me b hb, ?_⟩
    cases z : meetsB a b
    · rfl
    · obtain ⟨p, hp, hq⟩ := meets_iff.mp z
      exact absurd hq (hd p hp)
  · rintro ⟨x, hx, y, hy, hm⟩
    obtain ⟨a, ha, h1⟩ := car_iff.mp (List.mem_filter.mp hx).2
    obtain ⟨b, hb, h2⟩ := car_iff.mp (List.mem_filter.mp hy).2
    refine ⟨a, ha, b, hb, fun p hp hq => ?_⟩
    rw [meets_iff.mpr ⟨p, h1 p hp, h2 p hq⟩] at hm
    cases hm
theorem ou_lots (h : IsTab n t) (hl : ∀ l, l ∈ ls ↔ IsLot n l) : Ou t ↔ ∀ x ∈ ls, carB t x = true ∨ carB t (restL n x) = true := by
  constructor
  · intro hO x hx
    obtain ⟨a, ha, c⟩ := hO fun p => decide (p ∈ x)
    rcases c with c | c
    · exact .inl (car_iff.mpr ⟨a, ha, fun p hp => of_decide_eq_true (c p hp)⟩)
    · exact .inr (car_iff.mpr ⟨a, ha, fun p hp => mem_rest.mpr ⟨(h.lots a ha).2 p hp, of_decide_eq_false (c p hp)⟩⟩)
  · intro hk χ
    have lk : IsLot n ((rng n).filter χ) := ⟨(rng_asc n).filter _, fun p hp => mem_rng.mp (List.mem_filter.mp hp).1⟩
    rcases hk _ ((hl _).mpr lk) with c | c
    · obtain ⟨a, ha, h1⟩ := car_iff.mp c
      exact ⟨a, ha, .inl fun p hp => (List.mem_filter.mp (h1 p hp)).2⟩
    · obtain ⟨a, ha, h1⟩ := car_iff.mp c
      refine ⟨a, ha, .inr fun p hp => ?_⟩
      have q := mem_rest.mp (h1 p hp)
      cases z : χ p
      · rfl
      · exact absurd (List.mem_filter.mpr ⟨mem_rng.mpr q.1, z⟩) q.2
/-- the least ones of some unlike lots -/
def leastL (ls : List (List Int)) : List (List Int) := ls.filter fun l => !ls.any fun o => (!decide (o = l)) && partB o l
theorem least_tab {t' : List (List Int)} (hl : ∀ l ∈ ls, IsLot n l) (nd : ls.Nodup) (pm : t'.Perm (leastL ls)) (hs : t'.Pairwise fun x y => HT.lexLt y x = false) : IsTab n t' := by
  refine tab_of (ls := leastL ls) (fun l h => hl l (List.mem_filter.mp h).1) (nd.filter _) (fun a ha b hb ne => ?_) pm hs
  have q := (List.mem_filter.mp hb).2
  have ma := (List.mem_filter.mp ha).1
  cases z : partB a b
  · rfl
  · have : (ls.any fun o => (!decide (o = b)) && partB o b) = true := List.any_eq_true.mpr ⟨a, ma, by rw [z, decide_eq_false ne]; rfl⟩
    rw [this] at q
    cases q
end
end Rk
/-! the defs over bits -/
namespace Rk
open PySem PySem.Spec PyProof.Rows L2
open Evl (Ex EvT)
/-- one of those of which P holds -/
def ExR {α : Type} (R : α → RP) (P : α → Prop) : RP := fun H v => ∃ a, P a ∧ R a H v
instance {α : Type} {R : α → RP} {P : α → Prop} [∀ a, MoT (R a)] : MoT (ExR R P) := ⟨fun e ⟨a, p, r⟩ => ⟨a, p, MoT.mt e r⟩⟩
instance {α : Type} {R : α → RP} {P : α → Prop} [∀ a, Mo (R a)] : Mo (ExR R P) := ⟨fun e ⟨a, p, r⟩ => ⟨a, p, Mo.mo e r⟩⟩
theorem band (u m : Nat) : Builtin.bitAnd (u : Int) (m : Int) = ((u &&& m : Nat) : Int) := by
  rw [bitAnd_pp (Int.natCast_nonneg _) (Int.natCast_nonneg _), Int.toNat_natCast, Int.toNat_natCast]
theorem bor (u m : Nat) : Builtin.bitOr (u : Int) (m : Int) = ((u ||| m : Nat) : Int) := by
  rw [Bits.bitOr_pp (Int.natCast_nonneg _) (Int.natCast_nonneg _), Int.toNat_natCast, Int.toNat_natCast]
theorem bandn (u m : Nat) : Builtin.bitAnd (u : Int) (Builtin.bitNot (m : Int)) = ((andNot u m : Nat) : Int) := by
  have h1 : ¬ (0 : Int) ≤ Builtin.bitNot (m : Int) := by
    unfold Builtin.bitNot
    omega
  have h2 : Builtin.bitNot (Builtin.bitNot (m : Int)) = (m : Int) := by
    unfold Builtin.bitNot
    omega
  unfold Builtin.bitAnd
  rw [decide_eq_true (Int.natCast_nonneg u), decide_eq_false h1]
  show (u : Int) - (((u : Int).toNat &&& (Builtin.bitNot (Builtin.bitNot (m : Int))).toNat : Nat) : Int) = _
  rw [h2, Int.toNat_natCast, Int.toNat_natCast]
  unfold andNot
  have : u &&& m ≤ u := Nat.and_le_left
  omega
theorem btest (x k : Nat) : (Builtin.bitAnd ((x : Int) / 2 ^ k) 1 != 0) = x.testBit k := by
  rw [bitAnd_m1, Nat.testBit_eq_decide_div_mod_eq]
  have e : (x : Int) / 2 ^ k = ((x / 2 ^ k : Nat) : Int) := by simp
  rw [e]
  have : x / 2 ^ k % 2 = 0 ∨ x / 2 ^ k % 2 = 1 := by omega
  rcases this with z | z
  · have e2 : ((x / 2 ^ k : Nat) : Int) % 2 = 0 := by omega
    rw [e2, z]
    rfl
  · have e2 : ((x / 2 ^ k : Nat) : Int) % 2 = 1 := by omega
    rw [e2, z]
    rfl
theorem pcast (k : Nat) : (1 : Int) * 2 ^ k = ((2 ^ k : Nat) : Int) := by simp
theorem rng_get {n d : Int} {i : Nat} (h : (rng n)[i]? = some d) : d = (i : Int) ∧ (i : Int) < n := by
  unfold rng at h
  rw [List.getElem?_map] at h
  by_cases hi : i < n.toNat
  · rw [List.getElem?_range hi] at h
    cases h
    exact ⟨rfl, by omega⟩
  · rw [List.getElem?_eq_none (by rw [List.length_range]; omega)] at h
    cases h
section
variable {K : PySem.W.Frag} {mg : Str → Option Value} {σ : L2.St} {H : Hp} {ta tb te : TE}
theorem ev_lows (T : Txt K mg) {p : Int} (h : EvX tb σ H (nI p)) (h0 : 0 ≤ p) (h6 : p < 6) : EvX (tOp (rIxT K) (tC (.ref T.aLOWS)) tb) σ H (nI (lowN p.toNat : Nat)) :=
  ev_op (ev_c (x := .ref T.aLOWS)) h fun x y H3 _ hx hy Q q => by
    cases hx
    cases hy
    have g : ∀ j < 6, (lows.map V.int)[j]? = some (V.int (lowN j : Nat)) := by decide +kernel
    exact ⟨T.aLOWS, _, p, _, rfl, rfl, T.tLOWS H3, at_of (by omega) (g p.toNat (by omega)), q _ H3 (Ex.refl H3) rfl⟩
theorem ev_sortLots {ls : List (List Int)} (h : EvX te σ H (Lots ls)) : EvX (tCB (rSortLots K) (tCons te tNil)) σ H (ExR Lots fun ls' => ls'.Perm ls ∧ ls'.Pairwise fun x y => HT.lexLt y x = false) :=
  ev_cb1 h fun v H2 _ s Q q => by
    obtain ⟨a, vs, rfl, e, p⟩ := s
    exact ⟨a, vs, ls, rfl, SqL.of e, p, fun ys ls' d pm pw pp hd => q _ _ (Ex.new hd) ⟨ls', ⟨pm, pw⟩, d, ys, rfl, upd_same, pmo (Ex.new hd) pp⟩⟩
theorem ev_tupleE {α : Type} {T : α → RP} [∀ d, Mo (T d)] {P : List α → Prop} (h : EvX te σ H (ExR (Lst T) P)) : EvX (tCB (rTupX K) (tCons te tNil)) σ H (ExR (Tup T) P) := ev_cb1 h fun v H2 _ s Q q => by
  obtain ⟨ds, hp, a, vs, rfl, e, p⟩ := s
  exact ⟨a, vs, rfl, .inl ⟨SqL.of e, fun l hl => q _ _ (Ex.new hl) ⟨ds, hp, l, vs, rfl, upd_same, pmo (Ex.new hl) p⟩⟩⟩
theorem et_tru {i : Int} {b : Bool} (h : EvX te σ H (nI i)) (e : (i != 0) = b) : EvT (tTru K te) σ H b := fun H1 a _ q => h H1 a _ fun _ H2 e2 r => ⟨_, by
  cases r
  exact e.symm, q H2 e2⟩
end
section
variable {P : Program} {w : World} {K : PySem.W.Frag} {mg : Str → Option Value} {base : Heap}
theorem ok_lot_by (T : Txt K mg) : FnOk P w K mg base CX0 1 T.lot_by.f T.lot_by.fd ["number"] (spP (fun _ : Nat => True) (fun k => [nI (k : Nat)]) fun k => Lot (lotBy k)) :=
  fn_p T.lot_by sc_lot_by (fun _ => rfl) fun cdv A outer s H E k vs hr _ p => by
    obtain ⟨v, rfl, r⟩ := pone p
    refine ⟨_, (pss_one (ps_ret (pe_callTy (crK (K := K) (r := rTupX) cr_tuple) (by rfl) T.n_tuple (by decide +kernel) (pa_cons (pe_lc (own := [("person", 1)]) rfl sc_lot_by.nd (pi_range1 (by rfl) T.n_range (pa_cons (pe_glob (v := .int 6) (by rfl) T.gMOST ⟨_, rfl⟩) pa_nil)) (blkOk_by (own := [("person", 1)]) (N := ["number", "person"]) (sc := defScope s_lot_by) (by decide +kernel)) (fun _ _ _ _ _ => pg_name (i := 1) sc_lot_by.nd rfl (Or.inl rfl)) (fun _ _ _ _ _ => (pts_one (pt_tru (K := K) (pe_op op_and (pe_op op_shr (pv 0) (pv 1)) pe_int) (by intro _; rfl)))) (fun _ _ _ _ _ => (pv 1))) pa_nil)))), fun Q q => ?_⟩
    refine s_ret (ev_tupleL (ev_lcf (fun p : Int => k.testBit p.toNat) (ei_rng1 (n := 6) ev_c (by decide) (by decide)) (by rw [rng_len]; decide) (fun _ => rfl) (fun x d H1 e hd rd => ?_) fun x d H1 e hd rd _ => ev_var rfl rd)) q
    exact et_tru (ev_i0 (ev_i (ev_var rfl (mo e r)) (ev_var rfl rd) (mem_rng.mp hd).1 rfl) ev_c rfl) (btest k d.toNat)
theorem ok_bits_of (T : Txt K mg) : FnOk P w K mg base CX0 1 T.bits_of.f T.bits_of.fd ["lot"] (spP (fun l : List Int => l.length ≤ 1000 ∧ ∀ p ∈ l, 0 ≤ p ∧ p < 6) (fun l => [Lot l]) fun l => nI (bitsN l : Nat)) :=
  fn_p T.bits_of sc_bits_of (fun _ => rfl) fun cdv A outer s H E l vs hr hk p => by
    obtain ⟨v, rfl, r⟩ := pone p
    refine ⟨_, (pss_one (ps_ret (pe_callB (crK (K := K) (r := rSum) (cr_sum rfl)) (by rfl) T.n_sum (by decide +kernel) (pa_cons (pe_lc (own := [("person", 1)]) rfl sc_bits_of.nd (piK (K := K) (r := fun K => iTup K _) (pi_tup (pv 0))) (blkOk_by (own := [("person", 1)]) (N := ["lot", "person"]) (sc := defScope s_bits_of) (by decide +kernel)) (fun _ _ _ _ _ => pg_name (i := 1) sc_bits_of.nd rfl (Or.inl rfl)) (fun _ _ _ _ _ => pts_nil) (fun _ _ _ _ _ => (pe_op op_shl pe_int (pv 1)))) pa_nil)))), fun Q q => ?_⟩
    refine s_ret ((ev_sum (ev_lcm (fun p => (1 : Int) * 2 ^ p.toNat) (ei_tup (ev_var rfl r)) (by omega) (fun _ => rfl) fun x d H1 e hd rd => ?_)).eqI ?_) q
    · have := hk.2 d hd
      exact ev_i ev_c (ev_var rfl rd) ⟨this.1, by omega, by decide⟩ rfl
    · have key : ∀ l : List Int, (l.map fun p => (1 : Int) * 2 ^ p.toNat).sum = (bitsN l : Nat) := by
        intro l
        induction l with
        | nil => rfl
        | cons x l ih =>
          have e : bitsN (x :: l) = 2 ^ x.toNat + bitsN l := by
            unfold bitsN
            rw [List.map_cons, List.sum_cons]
          rw [List.map_cons, List.sum_cons, ih, e, pcast]
          omega
      exact key l
theorem ok_all_of (T : Txt K mg) : FnOk P w K mg base CX0 1 T.all_of.f T.all_of.fd ["folk"] (spP (fun n : Int => 0 ≤ n ∧ n ≤ 6) (fun n => [nI n]) fun n => nI (allN n.toNat : Nat)) :=
  fn_p T.all_of sc_all_of (fun _ => rfl) fun cdv A outer s H E n vs hr hk p => by
    obtain ⟨v, rfl, r⟩ := pone p
    refine ⟨_, (pss_one (ps_ret (pe_op op_sub (pe_op op_shl pe_int (pe_op op_shl pe_int (pv 0))) pe_int))), fun Q q => ?_⟩
    have h64 := two6 (n := n.toNat) (by omega)
    refine s_ret (ev_i0 (ev_i ev_c (ev_i ev_c (ev_var rfl r) ⟨hk.1, by omega, by decide⟩ (congrArg V.int (pcast _))) ⟨Int.natCast_nonneg _, by omega, by decide⟩ rfl) ev_c ?_) q
    rw [pcast, Int.toNat_natCast]
    have := Nat.two_pow_pos (2 ^ n.toNat)
    unfold allN
    congr 1
    omega
theorem ok_with_person (T : Txt K mg) : FnOk P w K mg base CX0 1 T.with_person.f T.with_person.fd ["up", "person"] (spP (fun a : Nat × Int => 0 ≤ a.2 ∧ a.2 < 6) (fun a => [nI (a.1 : Nat), nI a.2]) fun a => nI (withP a.1 a.2.toNat : Nat)) :=
  fn_p T.with_person sc_with_person (fun _ => rfl) fun cdv A outer s H E a vs hr hk p => by
    obtain ⟨v, u, rfl, r1, r2⟩ := ptwo p
    refine ⟨_, (pss_one (ps_ret (pe_op op_shl (pe_op op_and (pv 0) (pe_ix (ixK (K := K) (r := rIxT) ix_tup) (pe_glob (v := .ref T.aLOWS) (by rfl) T.gLOWS rfl) (pv 1) (fun _ _ => rfl))) (pe_op op_shl pe_int (pv 1))))), fun Q q => ?_⟩
    have h64 := two6 (n := a.2.toNat) (by omega)
    have hl := Nat.lt_of_le_of_lt (Nat.and_le_right (n := a.1) (m := lowN a.2.toNat)) (low_lt a.2.toNat)
    refine s_ret (ev_i (ev_i0 (ev_var rfl r1) (ev_lows T (ev_var rfl r2) hk.1 hk.2) (congrArg V.int (band _ _))) (ev_i ev_c (ev_var rfl r2) ⟨hk.1, by omega, by decide⟩ (congrArg V.int (pcast _))) ⟨Int.natCast_nonneg _, by omega, by omega⟩ ?_) q
    rw [Int.toNat_natCast]
    unfold withP
    simp
theorem ok_less_person (T : Txt K mg) : FnOk P w K mg base CX0 1 T.less_person.f T.less_person.fd ["up", "person"] (spP (fun a : Nat × Int => 0 ≤ a.2 ∧ a.2 < 6) (fun a => [nI (a.1 : Nat), nI a.2]) fun a => nI (lessP a.1 a.2.toNat : Nat)) :=
  fn_p T.less_person sc_less_person (fun _ => rfl) fun cdv A outer s H E a vs hr hk p => by
    obtain ⟨v, u, rfl, r1, r2⟩ := ptwo p
    refine ⟨_, (pss_one (ps_ret (pe_op op_and (pe_op op_shr (pv 0) (pe_op op_shl pe_int (pv 1))) (pe_ix (ixK (K := K) (r := rIxT) ix_tup) (pe_glob (v := .ref T.aLOWS) (by rfl) T.gLOWS rfl) (pv 1) (fun _ _ => rfl))))), fun Q q => ?_⟩
    refine s_ret (ev_i0 (i := ((a.1 / 2 ^ (2 ^ a.2.toNat) : Nat) : Int)) (ev_i (ev_var rfl r1) (ev_i ev_c (ev_var rfl r2) ⟨hk.1, by omega, by decide⟩ (congrArg V.int (pcast _))) (Int.natCast_nonneg _) ?_) (ev_lows T (ev_var rfl r2) hk.1 hk.2) (congrArg V.int (band _ _))) q
    rw [Int.toNat_natCast]
    simp
theorem ok_up_of (T : Txt K mg) : FnOk P w K mg base CX0 2 T.up_of.f T.up_of.fd ["folk", "table"] (spP (fun a : Nat × List (List Int) => a.1 ≤ 6 ∧ IsTab a.1 a.2) (fun a => [nI (a.1 : Nat), Tab a.2]) fun a => nI (upN a.1 a.2 : Nat)) :=
  fn_p T.up_of sc_up_of (fun _ => rfl) fun cdv A outer s H E a vs hr hk p => by
    obtain ⟨v, u, rfl, r1, r2⟩ := ptwo p
    have hl := tab_len hk.1 hk.2
    refine ⟨_, (pss_cons (ps_set (i := 2) sc_up_of.nd rfl (.inl rfl) (pe_callB (crK (K := K) (r := rSum) (cr_sum rfl)) (by rfl) T.n_sum (by decide +kernel) (pa_cons (pe_lc (own := [("lot", 3)]) rfl sc_up_of.nd (piK (K := K) (r := fun K => iTup K _) (pi_tup (pv 1))) (blkOk_by (own := [("lot", 3)]) (N := ["folk", "table", "up", "lot", "person"]) (sc := defScope s_up_of) (by decide +kernel)) (fun _ _ _ _ _ => pg_name (i := 3) sc_up_of.nd rfl (Or.inl rfl)) (fun _ _ _ _ _ => pts_nil) (fun _ _ _ _ _ => (pe_op op_shl pe_int (pe_cl T.bits_of (ok_bits_of T) hr (by decide) (by rfl) (pa_cons (pv 3) pa_nil))))) pa_nil)))
    (pss_cons (ps_for PassesOwn.never rfl (pi_range1 (by rfl) T.n_range (pa_cons (pv 0) pa_nil)) (pg_name (i := 4) sc_up_of.nd rfl (.inl rfl))
      (pss_one (ps_aug (i := 2) sc_up_of.nd rfl (.inl rfl) (pe_cl T.with_person (ok_with_person T) hr (by decide) (by rfl) (pa_cons (pv 2) (pa_cons (pv 4) pa_nil))) iop_or)))
    (pss_one (ps_ret (pv 2))))), fun Q q => ?_⟩
    refine q_set ((ev_sum (ev_lcm (fun l => (1 : Int) * 2 ^ (bitsN l)) (ei_tup (ev_var rfl r2)) (by omega) (fun _ => rfl) fun x d H1 e hd rd => ?_)).eqI (j := (((a.2.map fun l => 2 ^ bitsN l).sum : Nat) : Int)) ?_) fun v2 H1 e1 q1 => ?_
    · have hb := bits_lt (hk.2.lots d hd)
      have h64 := two6 hk.1
      refine ev_i (j := (bitsN d : Nat)) ev_c (ev_call (a := d) ⟨tab_lots hk.1 hk.2 d hd, fun p hp => ?_⟩ (ea1 (ev_var rfl rd))) ⟨Int.natCast_nonneg _, by omega, by decide⟩ (by rw [Int.toNat_natCast])
      have := (hk.2.lots d hd).2 p hp
      omega
    · have key : ∀ t : List (List Int), (t.map fun l => (1 : Int) * 2 ^ (bitsN l)).sum = (((t.map fun l => 2 ^ bitsN l).sum : Nat) : Int) := by
        intro t
        induction t with
        | nil => rfl
        | cons x t ih =>
          rw [List.map_cons, List.sum_cons, ih, List.map_cons, List.sum_cons, pcast]
          omega
      exact key a.2
    · cases q1
      refine q_for (ei_rng1 (ev_var rfl (mo e1 r1)) (by omega) (by omega)) fun H2 e2 => ⟨fun i σ' H' => ∃ y, σ' = [some v, some u, some (.int (closeN i ((a.2.map fun l => 2 ^ bitsN l).sum) : Nat)), none, y], ⟨none, rfl⟩, fun _ _ _ _ _ z => z, fun i d x σ' H' hd e3 z rd => ?_, fun σ' H' e3 z => ?_⟩
      · obtain ⟨y, rfl⟩ := z
        obtain ⟨rfl, hi⟩ := rng_get hd
        refine ⟨_, rfl, (ev_call (a := (closeN i ((a.2.map fun l => 2 ^ bitsN l).sum), (i : Int))) ⟨by omega, by omega⟩ (ea_cons (ev_var rfl rfl) (ea1 (ev_var rfl rd)))).go fun v3 H3 e4 r3 => ?_⟩
        cases r3
        exact ⟨_, _, rfl, rfl, e3.trans e4, some x, by dsimp only; rw [bor, Int.toNat_natCast]; rfl⟩
      · obtain ⟨y, rfl⟩ := z
        refine s_ret (ev_var (R := nI (upN a.1 a.2 : Nat)) rfl ?_) fun v3 H3 e4 r3 => q v3 H3 (((e1.trans e2).trans e3).trans e4) r3
        rw [rng_len, Int.toNat_natCast]
        rfl
theorem ok_table_from (T : Txt K mg) : FnOk P w K mg base CX0 2 T.table_from.f T.table_from.fd ["folk", "up"] (spP (fun a : Nat × Nat => a.1 ≤ 6) (fun a => [nI (a.1 : Nat), nI (a.2 : Nat)]) fun a => ExR Tab fun t => t.Perm ((minT a.1 a.2).map lotBy) ∧ t.Pairwise fun x y => HT.lexLt y x = false) :=
  fn_p T.table_from sc_table_from (fun _ => rfl) fun cdv A outer s H E a vs hr hk p => by
    obtain ⟨v, u, rfl, r1, r2⟩ := ptwo p
    refine ⟨_, (pss_cons (ps_set (i := 2) sc_table_from.nd rfl (.inl rfl) pe_int)
    (pss_cons (ps_for PassesOwn.never rfl (pi_range1 (by rfl) T.n_range (pa_cons (pv 0) pa_nil)) (pg_name (i := 3) sc_table_from.nd rfl (.inl rfl))
      (pss_one (ps_aug (i := 2) sc_table_from.nd rfl (.inl rfl) (pe_cl T.with_person (ok_with_person T) hr (by decide) (by rfl) (pa_cons (pv 1) (pa_cons (pv 3) pa_nil))) iop_or)))
    (pss_cons (ps_set (i := 4) sc_table_from.nd rfl (.inr rfl) (pe_op op_and (pv 1) (pe_un un_inv (pv 2))))
    (pss_one (ps_ret (pe_callTy (crK (K := K) (r := rTupX) cr_tuple) (by rfl) T.n_tuple (by decide +kernel) (pa_cons (pe_callB (crK (K := K) (r := rSortLots) (cr_sortLots (hu2 hr))) (by rfl) T.n_sorted (by decide +kernel) (pa_cons (pe_lc (own := [("number", 5)]) rfl sc_table_from.nd (pi_range1 (by rfl) T.n_range (pa_cons (pe_op op_shl pe_int (pv 0)) pa_nil)) (blkOk_by (own := [("number", 5)]) (N := ["folk", "up", "more", "person", "least", "number"]) (sc := defScope s_table_from) (by decide +kernel)) (fun _ _ _ _ _ => pg_name (i := 5) sc_table_from.nd rfl (Or.inl rfl)) (fun _ _ _ _ _ => (pts_one (pt_tru (K := K) (pe_op op_and (pe_op op_shr (pv 4) (pv 5)) pe_int) (by intro _; rfl)))) (fun _ _ _ _ _ => (pe_cl T.lot_by (ok_lot_by T) hr (by decide) (by rfl) (pa_cons (pv 5) pa_nil)))) pa_nil)) pa_nil))))))), fun Q q => ?_⟩
    refine q_set ev_c fun v2 H1 e1 q1 => ?_
    cases q1
    refine q_for (ei_rng1 (ev_var rfl (mo e1 r1)) (by omega) (by omega)) fun H2 e2 => ⟨fun i σ' H' => ∃ y, σ' = [some v, some u, some (.int (moreN i a.2 : Nat)), y, none, none], ⟨none, rfl⟩, fun _ _ _ _ _ z => z, fun i d x σ' H' hd e3 z rd => ?_, fun σ' H' e3 z => ?_⟩
    · obtain ⟨y, rfl⟩ := z
      obtain ⟨rfl, hi⟩ := rng_get hd
      refine ⟨_, rfl, (ev_call (a := (a.2, (i : Int))) ⟨by omega, by omega⟩ (ea_cons (ev_var rfl (mo e3 (mo (e1.trans e2) r2))) (ea1 (ev_var rfl rd)))).go fun v3 H3 e4 r3 => ?_⟩
      cases r3
      exact ⟨_, _, rfl, rfl, e3.trans e4, some x, by dsimp only; rw [bor, Int.toNat_natCast]; rfl⟩
    · obtain ⟨y, rfl⟩ := z
      have e03 := (e1.trans e2).trans e3
      refine q_set (ev_i0 (z := V.int (leastN a.1 a.2 : Nat)) (ev_var rfl (mo e03 r2)) (ev_u (z := V.int (Builtin.bitNot (moreN a.1 a.2 : Nat))) (ev_var (R := nI (moreN a.1 a.2 : Nat)) rfl (by rw [rng_len, Int.toNat_natCast]; rfl)) rfl) (by rw [bandn]; rfl)) fun v4 H4 e4 q4 => ?_
      cases q4
      have hz : ((2 ^ a.1 : Nat) : Int) ≤ 64 := by
        have := two6 hk
        omega
      have ls : ((rng ((2 ^ a.1 : Nat) : Int)).filter fun d => (leastN a.1 a.2).testBit d.toNat).map (fun d => lotBy d.toNat) = (minT a.1 a.2).map lotBy := by
        unfold rng minT
        rw [List.filter_map, List.map_map, Int.toNat_natCast]
        rfl
      rw [← ls] at q
      refine s_ret (ev_tupleE (ev_sortLots (ev_lc (fun d => (leastN a.1 a.2).testBit d.toNat) (fun d => lotBy d.toNat) (ei_rng1 (n := ((2 ^ a.1 : Nat) : Int)) (ev_i ev_c (ev_var rfl (mo (e03.trans e4) r1)) ⟨by omega, by omega, by decide⟩ (by rw [Int.toNat_natCast, pcast])) (by omega) (Int.natCast_nonneg _)) (by rw [rng_len]; omega) (fun _ => rfl) (fun x d H5 e5 hd rd => ?_) fun x d H5 e5 hd rd _ => ?_))) fun v5 H5 e5 r5 => q v5 H5 ((e03.trans e4).trans e5) r5
      · exact et_tru (ev_i0 (ev_i (ev_var (R := nI (leastN a.1 a.2 : Nat)) rfl rfl) (ev_var rfl rd) (mem_rng.mp hd).1 rfl) ev_c rfl) (btest _ _)
      · exact ev_call (a := d.toNat) trivial (ea1 (ev_var rfl (by rw [Int.toNat_of_nonneg (mem_rng.mp hd).1]; exact rd)))
theorem ok_rests_of (T : Txt K mg) : FnOk P w K mg base CX0 2 T.rests_of.f T.rests_of.fd ["folk", "up"] (spP (fun a : Nat × Nat => a.1 ≤ 6) (fun a => [nI (a.1 : Nat), nI (a.2 : Nat)]) fun a => nI (restN a.1 a.2 : Nat)) :=
  fn_p T.rests_of sc_rests_of (fun _ => rfl) fun cdv A outer s H E a vs hr hk p => by
    obtain ⟨v, u, rfl, r1, r2⟩ := ptwo p
    cases r2
    refine ⟨_, (pss_cons (ps_for PassesOwn.never rfl (pi_range1 (by rfl) T.n_range (pa_cons (pv 0) pa_nil)) (pg_name (i := 2) sc_rests_of.nd rfl (.inl rfl))
      (pss_one (ps_set (i := 1) sc_rests_of.nd rfl (.inl rfl) (pe_op op_or (pe_cl T.with_person (ok_with_person T) hr (by decide) (by rfl) (pa_cons (pv 1) (pa_cons (pv 2) pa_nil))) (pe_cl T.less_person (ok_less_person T) hr (by decide) (by rfl) (pa_cons (pv 1) (pa_cons (pv 2) pa_nil)))))))
    (pss_one (ps_ret (pv 1)))), fun Q q => ?_⟩
    refine q_for (ei_rng1 (ev_var rfl r1) (by omega) (by omega)) fun H2 e2 => ⟨fun i σ' H' => ∃ y, σ' = [some v, some (.int (restN i a.2 : Nat)), y], ⟨none, rfl⟩, fun _ _ _ _ _ z => z, fun i d x σ' H' hd e3 z rd => ?_, fun σ' H' e3 z => ?_⟩
    · obtain ⟨y, rfl⟩ := z
      obtain ⟨rfl, hi⟩ := rng_get hd
      refine s_set (ev_i0 (z := V.int (restN (i + 1) a.2 : Nat)) (ev_call (a := (restN i a.2, (i : Int))) ⟨by omega, by omega⟩ (ea_cons (ev_var rfl rfl) (ea1 (ev_var rfl rd)))) (ev_call (a := (restN i a.2, (i : Int))) ⟨by omega, by omega⟩ (ea_cons (ev_var rfl rfl) (ea1 (ev_var rfl rd)))) ?_) fun v3 H3 e4 r3 => ?_
      · rw [bor, Int.toNat_natCast]
        rfl
      · cases r3
        exact ⟨e3.trans e4, some x, rfl⟩
    · obtain ⟨y, rfl⟩ := z
      refine s_ret (ev_var (R := nI (restN a.1 a.2 : Nat)) rfl ?_) fun v3 H3 e4 r3 => q v3 H3 ((e2.trans e3).trans e4) r3
      rw [rng_len, Int.toNat_natCast]
      rfl
theorem ok_turned_of (T : Txt K mg) : FnOk P w K mg base CX0 3 T.turned_of.f T.turned_of.fd ["folk", "up"] (spP (fun a : Nat × Nat => a.1 ≤ 6) (fun a => [nI (a.1 : Nat), nI (a.2 : Nat)]) fun a => nI (turnN a.1 a.2 : Nat)) :=
  fn_p T.turned_of sc_turned_of (fun _ => rfl) fun cdv A outer s H E a vs hr hk p => by
    obtain ⟨v, u, rfl, r1, r2⟩ := ptwo p
    refine ⟨_, (pss_one (ps_ret (pe_op op_and (pe_cl T.all_of (ok_all_of T) hr (by decide) (by rfl) (pa_cons (pv 0) pa_nil)) (pe_un un_inv (pe_cl T.rests_of (ok_rests_of T) hr (by decide) (by rfl) (pa_cons (pv 0) (pa_cons (pv 1) pa_nil))))))), fun Q q => ?_⟩
    exact s_ret (ev_i0 (ev_call (a := ((a.1 : Nat) : Int)) ⟨by omega, by omega⟩ (ea1 (ev_var rfl r1))) (ev_u (ev_call (a := a) hk (ea_cons (ev_var rfl r1) (ea1 (ev_var rfl r2)))) rfl) (by rw [bandn]; rfl)) q
theorem ok_is_round (T : Txt K mg) : FnOk P w K mg base CX0 3 T.is_round.f T.is_round.fd ["folk", "up"] (spP (fun a : Nat × Nat => a.1 ≤ 6) (fun a => [nI (a.1 : Nat), nI (a.2 : Nat)]) fun a => nB (decide (a.2 &&& restN a.1 a.2 = 0))) :=
  fn_p T.is_round sc_is_round (fun _ => rfl) fun cdv A outer s H E a vs hr hk p => by
    obtain ⟨v, u, rfl, r1, r2⟩ := ptwo p
    refine ⟨_, (pss_one (ps_ret (pe_cmpR op_eq (pe_op op_and (pv 1) (pe_cl T.rests_of (ok_rests_of T) hr (by decide) (by rfl) (pa_cons (pv 0) (pa_cons (pv 1) pa_nil)))) pe_int (nomark _)))), fun Q q => ?_⟩
    refine s_ret (ev_eq (ev_i0 (z := V.int ((a.2 &&& restN a.1 a.2 : Nat) : Int)) (ev_var rfl r2) (ev_call (a := a) hk (ea_cons (ev_var rfl r1) (ea1 (ev_var rfl r2)))) (by rw [band])) ev_c rfl ?_) q
    refine decide_eq_decide.mpr ⟨fun z => ?_, fun z => by rw [z]; rfl⟩
    have := V.int.inj z
    omega
open Classical in
/-- the word of a table -/
noncomputable def wordT (t : List (List Int)) : Str := if Dj t then "none" else if Ou t then "outright" else "round"
theorem ok_kind_of (T : Txt K mg) : FnOk P w K mg base CX0 4 T.kind_of.f T.kind_of.fd ["folk", "table"] (spP (fun a : Nat × List (List Int) => a.1 ≤ 6 ∧ IsTab a.1 a.2) (fun a => [nI (a.1 : Nat), Tab a.2]) fun a => Is (.str (wordT a.2))) :=
  fn_p T.kind_of sc_kind_of (fun _ => rfl) fun cdv A outer s H E a vs hr hk p => by
    obtain ⟨v, u, rfl, r1, r2⟩ := ptwo p
    refine ⟨_, (pss_cons (ps_set (i := 2) sc_kind_of.nd rfl (.inl rfl) (pe_cl T.up_of (ok_up_of T) hr (by decide) (by rfl) (pa_cons (pv 0) (pa_cons (pv 1) pa_nil))))
    (pss_cons (ps_if (pt_not (pt_val (pe_cl T.is_round (ok_is_round T) hr (by decide) (by rfl) (pa_cons (pv 0) (pa_cons (pv 2) pa_nil))))) (pss_one (ps_ret pe_str)) pss_nil)
    (pss_one (ps_ret (pe_ifExp (pt_cmpR op_eq (pe_cl T.turned_of (ok_turned_of T) hr (by decide) (by rfl) (pa_cons (pv 0) (pa_cons (pv 2) pa_nil))) (pv 2) (nomark _)) pe_str pe_str))))), fun Q q => ?_⟩
    refine q_set (ev_call (a := a) hk (ea_cons (ev_var rfl r1) (ea1 (ev_var rfl r2)))) fun v2 H1 e1 q1 => ?_
    refine q_if (Evl.et_not (et_B (ev_call (a := (a.1, upN a.1 a.2)) hk.1 (ea_cons (ev_var rfl (mo e1 r1)) (ea1 (ev_var rfl q1)))))) (fun hb H2 e2 => ?_) fun hb H2 e2 => ?_
    · have hd : Dj a.2 := by
        rw [Bool.not_eq_true'] at hb
        have nr := of_decide_eq_false hb
        exact Classical.byContradiction fun z => nr ((round_iff hk.1 hk.2).mpr z)
      refine s_ret ev_c fun v3 H3 e3 r3 => q v3 H3 ((e1.trans e2).trans e3) ?_
      unfold wordT
      rw [if_pos hd]
      exact r3
    · have hd : ¬ Dj a.2 := by
        have hb' : decide (upN a.1 a.2 &&& restN a.1 (upN a.1 a.2) = 0) = true := by
          cases z : decide (upN a.1 a.2 &&& restN a.1 (upN a.1 a.2) = 0)
          · rw [z] at hb
            cases hb
          · rfl
        exact (round_iff hk.1 hk.2).mp (of_decide_eq_true hb')
      refine s_ret (R := Is (.str (wordT a.2))) (ev_if (b := decide (turnN a.1 (upN a.1 a.2) = upN a.1 a.2)) (et_test (ev_eq (ev_call (a := (a.1, upN a.1 a.2)) hk.1 (ea_cons (ev_var rfl (mo (e1.trans e2) r1)) (ea1 (ev_var rfl (mo e2 q1))))) (ev_var rfl (mo e2 q1)) rfl ?_)) (fun hz => ?_) fun hz => ?_) fun v3 H3 e3 r3 => q v3 H3 ((e1.trans e2).trans e3) r3
      · exact decide_eq_decide.mpr ⟨fun z => Int.ofNat_inj.mp (V.int.inj z), fun z => congrArg (fun m : Nat => V.int m) z⟩
      · have ho := ((turn_iff hk.1 hk.2).mp (of_decide_eq_true hz)).2
        unfold wordT
        rw [if_neg hd, if_pos ho]
        exact ev_c
      · have ho : ¬ Ou a.2 := fun z => of_decide_eq_false hz ((turn_iff hk.1 hk.2).mpr ⟨hd, z⟩)
        unfold wordT
        rw [if_neg hd, if_neg ho]
        exact ev_c
end
end Rk
/-! the defs over tables -/
namespace Rk
open PySem PySem.Spec PyProof.Rows L2
open Evl (Ex EvT)
/-- what is walked, known by P alone -/
def EiE {α : Type} (wi : TI) (σ : L2.St) (H : Hp) (R : α → RP) (P : List α → Prop) : Prop := ∀ H1, Ex H H1 → ∀ Rk : It → Hp → Prop, (∀ ds J H2, P ds → Ex H1 H2 → WkD J H2 R ds → Rk J H2) → wi σ H1 Rk
/-- a value that is None just if p -/
def NonIf (p : Prop) : RP := fun _ v => v = .non ↔ p
instance {p : Prop} : MoT (NonIf p) := ⟨fun _ h => h⟩
section
variable {α : Type} {K : PySem.W.Frag} {σ : L2.St} {H : Hp} {ta tb te : TE} {D : Ends} {tu tz : TS} {g : TG} {wi : TI} {R : α → RP} {P : List α → Prop}
theorem WkD.mono {J : It} {H1 H2 : Hp} {ds : List α} (e : Ex H1 H2) (w : WkD J H1 R ds) : WkD J H2 R ds := fun H3 e3 => w H3 (e.trans e3)
theorem ei_const {J : It} {H1 : Hp} {ds : List α} (w : WkD J H1 R ds) : EiX (fun _ H Rk => Rk J H) σ H1 R ds := fun H2 e Rk q => q J H2 (Ex.refl H2) (w.mono e)
theorem ei_listE [∀ d, Mo (R d)] (h : EvX te σ H (ExR (Lst R) P)) : EiE (iList K te) σ H R P := fun H1 e Rk q => h H1 e _ fun v H2 e2 r => by
  obtain ⟨ds, hp, r⟩ := r
  exact (ei_list (K := K) (te := fun _ H Q => Q v H) (σ := σ) (fun H3 e3 Q q' => q' v H3 (Ex.refl H3) (Mo.mo e3 r))) H2 (Ex.refl H2) Rk fun J H3 e3 w => q ds J H3 hp (e2.trans e3) w
theorem ev_lcE {t : TT} {vs : List Nat} {S : RP} (h : EiE wi σ H R P) (k : ∀ ds, P ds → ∀ (wi' : TI) H1, Ex H H1 → EiX wi' σ H1 R ds → EvX (tLc wi' g t te vs) σ H1 S) : EvX (tLc wi g t te vs) σ H S := fun H0 e0 Q q =>
  h H0 e0 _ fun ds J H1 hp e1 w => k ds hp (fun _ H Rk => Rk J H) H1 (e0.trans e1) (ei_const w) H1 (Ex.refl H1) Q fun v H2 e2 r => q v H2 (e1.trans e2) r
theorem s_forE (h : EiE wi σ H R P) (k : ∀ ds, P ds → ∀ (wi' : TI) H1, Ex H H1 → EiX wi' σ H1 R ds → tFor wi' g tu D σ H1) : tFor wi g tu D σ H :=
  h H (Ex.refl H) _ fun ds J H1 hp e1 w => k ds hp (fun _ H Rk => Rk J H) H1 e1 (ei_const w)
theorem q_forE (h : EiE wi σ H R P) (k : ∀ ds, P ds → ∀ (wi' : TI) H1, Ex H H1 → EiX wi' σ H1 R ds → tSeq (tFor wi' g tu) tz D σ H1) : tSeq (tFor wi g tu) tz D σ H := s_forE (D := { D with nx := tz D }) h k
theorem q_drop {S : RP} (h : EvX te σ H S) (k : ∀ H1, Ex H H1 → tz D σ H1) : tSeq (tDrop te) tz D σ H := h H (Ex.refl H) _ fun _ H1 e _ => k H1 e
theorem ea_int {n : Int} (h : EvX te σ H (nI n)) : Evl.EvA (tCons te tNil) σ H [.int n] := fun H1 e _ q => h H1 e _ fun v H2 e2 r => by
  cases r
  exact q H2 e2
/-- the pair that enumerate gives, stored -/
theorem g_num {i j : Nat} {d : Nat × α} {x : V} {Q : L2.St → Hp → Prop} (h : Num R d H x) (k : ∀ y, R d.2 H y → Q ((σ.set i (some (.int (d.1 : Nat)))).set j (some y)) H) : gTup K 2 (gCons (gName i) (gCons (gName j) gNil)) x σ H Q := by
  obtain ⟨a, y, rfl, ha, ry⟩ := h
  exact ⟨a, _, rfl, SqT.of ha, rfl, _, _, rfl, _, _, rfl, rfl, k y ry⟩
theorem ev_tup2 {p : Prop} (ha : ∃ v, ∀ H1, Ex H H1 → ∀ Q : VK, Q v H1 → ta σ H1 Q) (hb : ∃ v, ∀ H1, Ex H H1 → ∀ Q : VK, Q v H1 → tb σ H1 Q) (hp : ¬ p) : EvX (tTup (tCons ta (tCons tb tNil))) σ H (NonIf p) := fun H1 e Q q => by
  obtain ⟨v, ha⟩ := ha
  obtain ⟨w, hb⟩ := hb
  refine ha H1 e _ (hb H1 e _ ⟨by show 2 ≤ sizeLine; decide, fun d hd => q _ _ (Ex.new hd) ⟨fun z => (by cases z), fun z => absurd z hp⟩⟩)
/-- a list just made, unknown to H0 -/
def FrL (H0 : Hp) (R : α → RP) (ds : List α) : RP := fun H v => ∃ a vs, v = .ref a ∧ H a = some (.lst vs) ∧ Paired (fun v d => R d H v) vs ds ∧ H0 a = none
theorem ev_lst1F [m : ∀ d, Mo (R d)] {d : α} (h : EvX te σ H (R d)) : EvX (tLst (tCons te tNil)) σ H (FrL H R [d]) := fun H1 e _ q => h H1 e _ fun v H2 e2 r =>
  ⟨by show 1 ≤ sizeLine; decide, fun p hp => q _ _ (e2.trans (Ex.new hp)) ⟨p, [v], rfl, upd_same, .cons ((m d).mo (Ex.new hp) r) .nil, Evl.fresh_back (e.trans e2) hp⟩⟩
theorem ev_lst0F : EvX (tLst tNil) σ H (FrL H R []) := fun H1 e _ q => ⟨by show 0 ≤ sizeLine; decide, fun p hp => q _ _ (Ex.new hp) ⟨p, [], rfl, upd_same, .nil, Evl.fresh_back e hp⟩⟩
theorem ev_listTF [∀ d, Mo (R d)] {ds : List α} (h : EvX te σ H (Tup R ds)) : EvX (tCB (rLstX K) (tCons te tNil)) σ H (FrL H R ds) := fun H1 e1 _ q => h H1 e1 _ fun v H2 e2 s => by
  obtain ⟨a, vs, rfl, e, p⟩ := s
  exact ⟨a, vs, rfl, .inr (SqT.of e), fun l hl => q _ _ (e2.trans (Ex.new hl)) ⟨l, vs, rfl, upd_same, pmo (Ex.new hl) p, Evl.fresh_back (e1.trans e2) hl⟩⟩
theorem ev_slLo {ds : List α} [∀ d, Mo (R d)] {m : Nat} {i : Int} (ha : EvX ta σ H (Tup R ds)) (hb : EvX tb σ H (nI i)) (e : i = (m : Int)) : EvX (tSl (rSlA K) ta (tPart tb) tNoPart) σ H (Tup R (ds.drop m)) := by
  subst e
  exact ev_slT ha (eo_some hb) eo_none fun vs H3 p => by
    rw [cut_lo (α := Unit)]
    exact pdrop m p
theorem ev_slHi {ds : List α} [∀ d, Mo (R d)] {m : Nat} {i : Int} (ha : EvX ta σ H (Tup R ds)) (hb : EvX tb σ H (nI i)) (e : i = (m : Int)) : EvX (tSl (rSlA K) ta tNoPart (tPart tb)) σ H (Tup R (ds.take m)) := by
  subst e
  exact ev_slT ha eo_none (eo_some hb) fun vs H3 p => by
    rw [cut_hi (α := Unit)]
    exact ptake m p
end
theorem lots_step {i : Nat} {ls : List (List Int)} (h : ∀ l, l ∈ ls ↔ IsLot i l) (l : List Int) : l ∈ ls ++ ls.map (fun l => l ++ [(i : Int)]) ↔ IsLot ((i + 1 : Nat) : Int) l := by
  rw [List.mem_append, List.mem_map, h]
  constructor
  · rintro (⟨h1, h2⟩ | ⟨m, hm, rfl⟩)
    · exact ⟨h1, fun p hp => by have := h2 p hp; omega⟩
    · obtain ⟨h1, h2⟩ := (h m).mp hm
      refine ⟨List.pairwise_append.mpr ⟨h1, List.pairwise_singleton _ _, fun a ha b hb => ?_⟩, fun p hp => ?_⟩
      · rw [List.mem_singleton.mp hb]
        exact (h2 a ha).2
      · rcases List.mem_append.mp hp with z | z
        · have := h2 p z
          omega
        · rw [List.mem_singleton.mp z]
          omega
  · rintro ⟨h1, h2⟩
    by_cases hi : (i : Int) ∈ l
    · refine .inr ⟨l.dropLast, ?_, ?_⟩
      · rw [h]
        have ne : l ≠ [] := List.ne_nil_of_mem hi
        have e := List.dropLast_concat_getLast ne
        have hp := h1
        rw [← e] at hp
        have hq := List.pairwise_append.mp hp
        refine ⟨hq.1, fun p hp' => ?_⟩
        have b1 := h2 p (List.dropLast_subset l hp')
        have b2 := hq.2.2 p hp' _ (List.mem_singleton.mpr rfl)
        have b3 := h2 _ (List.getLast_mem ne)
        omega
      · have ne : l ≠ [] := List.ne_nil_of_mem hi
        have e := List.dropLast_concat_getLast ne
        have hp := h1
        rw [← e] at hp
        have hq := List.pairwise_append.mp hp
        have gl : l.getLast ne = (i : Int) := by
          have b3 := h2 _ (List.getLast_mem ne)
          have hi' := hi
          rw [← e] at hi'
          rcases List.mem_append.mp hi' with z | z
          · have := hq.2.2 _ z _ (List.mem_singleton.mpr rfl)
            omega
          · exact (List.mem_singleton.mp z).symm
        rw [← gl]
        exact e
    · refine .inl ⟨h1, fun p hp => ?_⟩
      have := h2 p hp
      have : p ≠ (i : Int) := fun e => hi (by rw [← e]; exact hp)
      omega
theorem lots_zero (l : List Int) : l ∈ [([] : List Int)] ↔ IsLot ((0 : Nat) : Int) l := by
  rw [List.mem_singleton]
  constructor
  · rintro rfl
    exact ⟨List.Pairwise.nil, fun p hp => by cases hp⟩
  · rintro ⟨_, h⟩
    cases l with
    | nil => rfl
    | cons x l =>
      have := h x List.mem_cons_self
      omega
/-- all lots of so many folk -/
def AllLots (n : Int) (ls : List (List Int)) : Prop := (∀ l, l ∈ ls ↔ IsLot n l) ∧ ls.length ≤ 64
section
variable {P : Program} {w : World} {K : PySem.W.Frag} {mg : Str → Option Value} {base : Heap}
theorem ok_lots_of (T : Txt K mg) : FnOk P w K mg base CX0 1 T.lots_of.f T.lots_of.fd ["folk"] (spP (fun n : Nat => n ≤ 6) (fun n => [nI (n : Nat)]) fun n => ExR Lots (AllLots n)) :=
  fn_p T.lots_of sc_lots_of (fun _ => rfl) fun cdv A outer s H E n vs hr hk p => by
    obtain ⟨v, rfl, r⟩ := pone p
    refine ⟨_, (pss_cons (ps_set (i := 1) sc_lots_of.nd rfl (.inl rfl) (pe_lst (pa_cons (pe_tup pa_nil) pa_nil)))
    (pss_cons (ps_for PassesOwn.never rfl (pi_range1 (by rfl) T.n_range (pa_cons (pv 0) pa_nil)) (pg_name (i := 2) sc_lots_of.nd rfl (.inr rfl))
      (pss_one (ps_expr (pe_bm PySem.F.plainAttrs_list PySem.F.slot_list_extend PySem.F.type_list_extend mt_extend (pv 1) (pa_cons (pe_lc (own := [("lot", 3)]) rfl sc_lots_of.nd (piK (K := K) (r := fun K => iList K _) (pi_list (pv 1))) (blkOk_by (own := [("lot", 3)]) (N := ["folk", "found", "person", "lot"]) (sc := defScope s_lots_of) (by decide +kernel)) (fun _ _ _ _ _ => pg_name (i := 3) sc_lots_of.nd rfl (Or.inl rfl)) (fun _ _ _ _ _ => pts_nil) (fun _ _ _ _ _ => (pe_op (opK (K := K) (r := rCatA) op_catA) (pv 3) (pe_tup (pa_cons (pv 2) pa_nil))))) pa_nil)))))
    (pss_one (ps_ret (pe_callB (crK (K := K) (r := rSortLots) (cr_sortLots (hu2 hr))) (by rfl) T.n_sorted (by decide +kernel) (pa_cons (pv 1) pa_nil)))))), fun Q q => ?_⟩
    refine q_set (ev_lst1F (R := Lot) (d := []) ev_tup0) fun v1 H1 e1 r1 => ?_
    obtain ⟨a, vs, rfl, hA, pA, nA⟩ := r1
    refine Evl.q_forR1 (n := n) (ea_int (ev_var rfl (mo e1 r))) (by omega) (fun i σ' H' => ∃ y vs ls, σ' = [some v, some (.ref a), y, none] ∧ Ex H H' ∧ H' a = some (.lst vs) ∧ Paired (fun v l => Lot l H' v) vs ls ∧ (∀ l, l ∈ ls ↔ IsLot i l) ∧ ls.length = 2 ^ i) (fun H2 e2 => ?_) (fun i σ' H' hi z => ?_) fun σ' H' z => ?_
    · exact ⟨none, vs, [[]], rfl, e1.trans e2, e2 a _ hA, pmo e2 pA, lots_zero, rfl⟩
    · obtain ⟨y, vs, ls, rfl, eH, hA, pA, hm, hl⟩ := z
      have i6 : i ≤ 6 := by omega
      have h64 := two6 i6
      refine ⟨.ref a, rfl, .inl ⟨rfl, vs, SqL.of hA⟩, (ev_lcm (R := Lot) (S := Lot) (fun l => l ++ [(i : Int)]) (ei_list (ev_var rfl ⟨a, vs, rfl, hA, pA⟩)) (by omega) (fun _ => rfl) fun x d H3 e3 hd rd => ?_).go fun v3 H3 e3 r3 => ?_⟩
      · have := lot_len ((hm d).mp hd) (by omega)
        exact ev_catT (ev_var rfl rd) (ev_tup1 (T := nI) (ev_var rfl rfl)) (by show d.length + 1 ≤ 100000; omega)
      · obtain ⟨b, us, rfl, hB, pB⟩ := r3
        have hA3 := e3 a _ hA
        have l1 := plen pA
        have l2 := plen pB
        rw [List.length_map] at l2
        refine ⟨a, b, vs, us, rfl, rfl, hA3, hB, Evl.sz_of (by omega), some (.int (i : Int)), vs ++ us, ls ++ ls.map fun l => l ++ [(i : Int)], rfl, (eH.trans e3).mut nA, upd_same, ?_, lots_step hm, ?_⟩
        · exact papp (pmt ((ExT.of e3).trans (ExT.lst hA3)) pA) (pmt (ExT.lst hA3) pB)
        · rw [List.length_append, List.length_map, hl, Nat.pow_succ]
          omega
    · obtain ⟨y, vs, ls, rfl, eH, hA, pA, hm, hl⟩ := z
      have h64 := two6 (n := (n : Int).toNat) (by omega)
      refine s_ret (ev_sortLots (ev_var rfl ⟨a, vs, rfl, hA, pA⟩)) fun v4 H4 e4 r4 => q v4 H4 (eH.trans e4) ?_
      obtain ⟨ls', ⟨pm, _⟩, r⟩ := r4
      refine ⟨ls', ⟨fun l => ?_, by rw [pm.length_eq]; omega⟩, r⟩
      rw [pm.mem_iff, hm, Int.toNat_natCast]
theorem ok_is_table_there (T : Txt K mg) : FnOk P w K mg base CX0 4 T.is_table_there.f T.is_table_there.fd ["folk", "thing"] (spP (fun a : Nat × List (List Int) => a.1 ≤ 6 ∧ IsTab a.1 a.2) (fun a => [nI (a.1 : Nat), Tab a.2]) fun _ => nB true) :=
  fn_p T.is_table_there sc_is_table_there (fun _ => rfl) fun cdv A outer s H E a vs hr hk p => by
    obtain ⟨v, u, rfl, r1, r2⟩ := ptwo p
    have hl := tab_len hk.1 hk.2
    refine ⟨_, (pss_cons (ps_if (PW.pt (pw_or (pt_not (pt_val (pe_callB (crK (K := K) (r := rIsi) call_isi) (by rfl) T.n_isinstance (by decide +kernel) (pa_cons (pv 1) (pa_cons (pe_bltn (v := .ty "tuple") (by rfl) T.n_tuple (by decide +kernel) rfl) pa_nil))))) (pw_or (pt_not (pt_val (pe_callB (crK (K := K) (r := rAll) (cr_all rfl)) (by rfl) T.n_all (by decide +kernel) (pa_cons (pe_lc (own := [("lot", 2)]) rfl sc_is_table_there.nd (piK (K := K) (r := fun K => iTup K _) (pi_tup (pv 1))) (blkOk_by (own := [("lot", 2)]) (N := ["folk", "thing", "lot", "at", "other"]) (sc := defScope s_is_table_there) (by decide +kernel)) (fun _ _ _ _ _ => pg_name (i := 2) sc_is_table_there.nd rfl (Or.inl rfl)) (fun _ _ _ _ _ => pts_nil) (fun _ _ _ _ _ => (pe_cl T.is_lot (ok_is_lot T) hr (by decide) (by rfl) (pa_cons (pv 0) (pa_cons (pv 2) pa_nil))))) pa_nil)))) (pw_or1 (pt_not (pt_val (pe_cl T.are_ascending (ok_are_ascending T) hr (by decide) (by rfl) (pa_cons (pv 1) pa_nil)))))))) (pss_one (ps_ret pe_bl)) pss_nil)
    (pss_cons (ps_for PassesOwn.never rfl (pi_enumT (by rfl) T.n_enumerate (pa_cons (pv 1) pa_nil)) (pg_tupK rfl (pgs_cons (pg_name (i := 3) sc_is_table_there.nd rfl (.inl rfl)) (pgs_cons (pg_name (i := 2) sc_is_table_there.nd rfl (.inr rfl)) pgs_nil)))
      (pss_one (ps_if (pt_val (pe_callB (crK (K := K) (r := rAny) (cr_any rfl)) (by rfl) T.n_any (by decide +kernel) (pa_cons (pe_lc (own := [("other", 4)]) rfl sc_is_table_there.nd (piK (K := K) (r := fun K => iTup K _) (pi_tup (pe_op (opK (K := K) (r := rCatA) op_catA) (pe_slice (slK (K := K) (r := rSlA) sl_tupA) (pv 1) po_none (po_some (pv 3))) (pe_slice (slK (K := K) (r := rSlA) sl_tupA) (pv 1) (po_some (pe_op op_add (pv 3) pe_int)) po_none)))) (blkOk_by (own := [("other", 4)]) (N := ["folk", "thing", "lot", "at", "other"]) (sc := defScope s_is_table_there) (by decide +kernel)) (fun _ _ _ _ _ => pg_name (i := 4) sc_is_table_there.nd rfl (Or.inl rfl)) (fun _ _ _ _ _ => pts_nil) (fun _ _ _ _ _ => (pe_cl T.is_part (ok_is_part T) hr (by decide) (by rfl) (pa_cons (pv 4) (pa_cons (pv 2) pa_nil))))) pa_nil))) (pss_one (ps_ret pe_bl)) pss_nil)))
    (pss_one (ps_ret pe_bl)))), fun Q q => ?_⟩
    refine q_skip (Evl.et_or (a := false) (b := false) (Evl.et_not (a := true) (et_B (ev_isi (ev_var rfl r2) ev_c ty_tup (by decide +kernel)))) fun _ => Evl.et_or (a := false) (b := false) (Evl.et_not (a := true) (et_B ((ev_all (ev_lcm (fun _ => true) (ei_tup (ev_var rfl r2)) (by omega) (fun _ => rfl) fun x d H1 e hd rd => ?_)).eqB (all_yes _)))) fun _ => Evl.et_not (a := true) (et_B ?_)) fun H1 e1 => ?_
    · exact ev_call (a := ((a.1 : Int), d)) ⟨by omega, hk.2.lots d hd⟩ (ea_cons (ev_var rfl (mo e r1)) (ea1 (ev_var rfl rd)))
    · exact ev_call (a := (Sum.inr a.2 : List Int ⊕ List (List Int))) (show a.2.length ≤ 1000 ∧ a.2.Pairwise (fun x y => HT.lexLt x y = true) from ⟨by omega, hk.2.asc⟩) (ea1 (ev_var rfl r2))
    · refine q_for (ei_enumT (ev_var rfl (mo e1 r2))) fun H2 e2 => ⟨fun i σ' H' => ∃ y z, σ' = [some v, some u, y, z, none], ⟨none, none, rfl⟩, fun _ _ _ _ _ z => z, fun i d x σ' H' hd e3 z rd => ?_, fun σ' H' e3 z => ?_⟩
      · obtain ⟨y, z, rfl⟩ := z
        obtain ⟨d1, d2⟩ := numd_get hd
        have hi := (List.getElem?_eq_some_iff.mp d2).1
        have e03 := (e1.trans e2).trans e3
        refine g_num rd fun lv rl => ?_
        refine s_skip (et_B ((ev_any (ev_lcm (R := Lot) (fun o => partB o d.2) (ei_tup (ev_catT (T := Lot) (ev_slHi (m := i) (ev_var rfl (mo e03 r2)) (ev_var (R := nI (i : Nat)) rfl (by rw [d1]; rfl)) rfl) (ev_slLo (m := i + 1) (ev_var rfl (mo e03 r2)) (ev_i0 (z := V.int ((i + 1 : Nat) : Int)) (ev_var (R := nI (i : Nat)) rfl (by rw [d1]; rfl)) ev_c (by simp)) rfl) (by rw [List.length_take, List.length_drop]; omega))) (by rw [List.length_append, List.length_take, List.length_drop]; omega) (fun _ => rfl) fun x o H4 e4 ho ro => ?_)).eqB ?_)) fun H4 e4 => ⟨e3.trans e4, some lv, some (.int (d.1 : Nat)), rfl⟩
        · have hm : o ∈ a.2 := by
            rcases List.mem_append.mp ho with z | z
            · exact List.mem_of_mem_take z
            · exact List.mem_of_mem_drop z
          exact ev_call (a := (o, d.2)) (tab_lots hk.1 hk.2 o hm) (ea_cons (ev_var rfl ro) (ea1 (ev_var rfl (mo e4 rl))))
        · rw [any_id]
          cases z : (a.2.take i ++ a.2.drop (i + 1)).any fun o => partB o d.2
          · rfl
          · exfalso
            obtain ⟨o, ho, hp⟩ := List.any_eq_true.mp z
            have nd := tab_nd hk.2
            have hne : o ∈ a.2 ∧ o ≠ d.2 := by
              have e : a.2 = a.2.take i ++ d.2 :: a.2.drop (i + 1) := by
                rw [← (List.getElem?_eq_some_iff.mp d2).2, ← List.drop_eq_getElem_cons hi, List.take_append_drop]
              rw [e] at nd
              have nd2 := List.nodup_append.mp nd
              rcases List.mem_append.mp ho with z | z
              · exact ⟨List.mem_of_mem_take z, fun q => nd2.2.2 o z d.2 List.mem_cons_self q⟩
              · exact ⟨List.mem_of_mem_drop z, fun q => (List.nodup_cons.mp nd2.2.1).1 (q ▸ z)⟩
            rw [tab_anti hk.2 hne.1 (List.mem_of_getElem? d2) hne.2] at hp
            cases hp
      · obtain ⟨y, z, rfl⟩ := z
        exact s_ret ev_c fun v3 H3 e4 r3 => q v3 H3 (((e1.trans e2).trans e3).trans e4) r3
theorem ok_check_table (T : Txt K mg) : FnOk P w K mg base CX0 5 T.check_table.f T.check_table.fd ["folk", "thing"] (spP (fun a : Nat × List (List Int) => (1 ≤ a.1 ∧ a.1 ≤ 6) ∧ IsTab a.1 a.2) (fun a => [nI (a.1 : Nat), Tab a.2]) fun _ => Is .non) :=
  fn_p T.check_table sc_check_table (fun _ => rfl) fun cdv A outer s H E a vs hr hk p => by
    obtain ⟨v, u, rfl, r1, r2⟩ := ptwo p
    refine ⟨_, (pss_cons (ps_expr (pe_cl T.check_folk (ok_check_folk T) hr (by decide) (by rfl) (pa_cons (pv 0) pa_nil)))
    (pss_one (ps_if (pt_not (pt_val (pe_cl T.is_table_there (ok_is_table_there T) hr (by decide) (by rfl) (pa_cons (pv 0) (pa_cons (pv 1) pa_nil))))) (pss_one ps_never) pss_nil))), fun Q q => ?_⟩
    refine q_drop (ev_call (a := (a.1 : Int)) ⟨by omega, by omega⟩ (ea1 (ev_var rfl r1))) fun H1 e1 => ?_
    exact s_skip (Evl.et_not (a := true) (et_B (ev_call (a := a) ⟨hk.1.2, hk.2⟩ (ea_cons (ev_var rfl (mo e1 r1)) (ea1 (ev_var rfl (mo e1 r2))))))) fun H2 e2 => q _ H2 (e1.trans e2) rfl
theorem ok_kind (T : Txt K mg) : FnOk P w K mg base CX0 6 T.kind.f T.kind.fd ["folk", "table"] (spP (fun a : Nat × List (List Int) => (1 ≤ a.1 ∧ a.1 ≤ 6) ∧ IsTab a.1 a.2) (fun a => [nI (a.1 : Nat), Tab a.2]) fun a => Is (.str (wordT a.2))) :=
  fn_p T.kind sc_kind (fun _ => rfl) fun cdv A outer s H E a vs hr hk p => by
    obtain ⟨v, u, rfl, r1, r2⟩ := ptwo p
    refine ⟨_, (pss_cons (ps_expr (pe_cl T.check_table (ok_check_table T) hr (by decide) (by rfl) (pa_cons (pv 0) (pa_cons (pv 1) pa_nil))))
    (pss_one (ps_ret (pe_cl T.kind_of (ok_kind_of T) hr (by decide) (by rfl) (pa_cons (pv 0) (pa_cons (pv 1) pa_nil)))))), fun Q q => ?_⟩
    refine q_drop (ev_call (a := a) hk (ea_cons (ev_var rfl r1) (ea1 (ev_var rfl r2)))) fun H1 e1 => ?_
    exact s_ret (ev_call (a := a) ⟨hk.1.2, hk.2⟩ (ea_cons (ev_var rfl (mo e1 r1)) (ea1 (ev_var rfl (mo e1 r2))))) fun v2 H2 e2 r => q v2 H2 (e1.trans e2) r
theorem ok_turned (T : Txt K mg) : FnOk P w K mg base CX0 6 T.turned.f T.turned.fd ["folk", "table"] (spP (fun a : Nat × List (List Int) => (1 ≤ a.1 ∧ a.1 ≤ 6) ∧ IsTab a.1 a.2) (fun a => [nI (a.1 : Nat), Tab a.2]) fun a => ExR Tab fun t => t = a.2 ↔ ¬ Dj a.2 ∧ Ou a.2) :=
  fn_p T.turned sc_turned (fun _ => rfl) fun cdv A outer s H E a vs hr hk p => by
    obtain ⟨v, u, rfl, r1, r2⟩ := ptwo p
    refine ⟨_, (pss_cons (ps_expr (pe_cl T.check_table (ok_check_table T) hr (by decide) (by rfl) (pa_cons (pv 0) (pa_cons (pv 1) pa_nil))))
    (pss_one (ps_ret (pe_cl T.table_from (ok_table_from T) hr (by decide) (by rfl) (pa_cons (pv 0) (pa_cons (pe_cl T.turned_of (ok_turned_of T) hr (by decide) (by rfl) (pa_cons (pv 0) (pa_cons (pe_cl T.up_of (ok_up_of T) hr (by decide) (by rfl) (pa_cons (pv 0) (pa_cons (pv 1) pa_nil))) pa_nil))) pa_nil)))))), fun Q q => ?_⟩
    refine q_drop (ev_call (a := a) hk (ea_cons (ev_var rfl r1) (ea1 (ev_var rfl r2)))) fun H1 e1 => ?_
    refine s_ret (ev_call (a := (a.1, turnN a.1 (upN a.1 a.2))) hk.1.2 (ea_cons (ev_var rfl (mo e1 r1)) (ea1 (ev_call (a := (a.1, upN a.1 a.2)) hk.1.2 (ea_cons (ev_var rfl (mo e1 r1)) (ea1 (ev_call (a := a) ⟨hk.1.2, hk.2⟩ (ea_cons (ev_var rfl (mo e1 r1)) (ea1 (ev_var rfl (mo e1 r2))))))))))) fun v2 H2 e2 r => q v2 H2 (e1.trans e2) ?_
    obtain ⟨t, ⟨h1, h2⟩, rt⟩ := r
    exact ⟨t, turned_eq hk.1.2 hk.2 h1 h2, rt⟩
theorem ok_open_lot (T : Txt K mg) : FnOk P w K mg base CX0 6 T.open_lot.f T.open_lot.fd ["folk", "table"] (spP (fun a : Nat × List (List Int) => (1 ≤ a.1 ∧ a.1 ≤ 6) ∧ IsTab a.1 a.2) (fun a => [nI (a.1 : Nat), Tab a.2]) fun a => NonIf (Ou a.2)) :=
  fn_p T.open_lot sc_open_lot (fun _ => rfl) fun cdv A outer s H E a vs hr hk p => by
    obtain ⟨v, u, rfl, r1, r2⟩ := ptwo p
    have hl : a.2.length ≤ 1000 := Nat.le_trans (tab_len hk.1.2 hk.2) (by decide)
    have hll := tab_lots hk.1.2 hk.2
    refine ⟨_, (pss_cons (ps_expr (pe_cl T.check_table (ok_check_table T) hr (by decide) (by rfl) (pa_cons (pv 0) (pa_cons (pv 1) pa_nil))))
    (pss_cons (ps_for PassesOwn.never rfl (piK (K := K) (r := fun K => iList K _) (pi_list (pe_cl T.lots_of (ok_lots_of T) hr (by decide) (by rfl) (pa_cons (pv 0) pa_nil)))) (pg_name (i := 2) sc_open_lot.nd rfl (.inl rfl))
      (pss_one (ps_if (PW.pt (pw_and (pt_not (pt_val (pe_cl T.carries_there (ok_carries_there T) hr (by decide) (by rfl) (pa_cons (pv 1) (pa_cons (pv 2) pa_nil))))) (pw_and1 (pt_not (pt_val (pe_cl T.carries_there (ok_carries_there T) hr (by decide) (by rfl) (pa_cons (pv 1) (pa_cons (pe_cl T.rest_of (ok_rest_of T) hr (by decide) (by rfl) (pa_cons (pv 0) (pa_cons (pv 2) pa_nil))) pa_nil)))))))) (pss_one (ps_ret (pv 2))) pss_nil)))
    (pss_one (ps_ret pe_non)))), fun Q q => ?_⟩
    refine q_drop (ev_call (a := a) hk (ea_cons (ev_var rfl r1) (ea1 (ev_var rfl r2)))) fun H1 e1 => ?_
    refine q_forE (ei_listE (ev_call (a := a.1) hk.1.2 (ea1 (ev_var rfl (mo e1 r1))))) fun ls hls wi' H2 e2 ei => ?_
    refine q_for ei fun H3 e3 => ⟨fun i σ' H' => ∃ y, σ' = [some v, some u, y] ∧ ∀ x ∈ ls.take i, carB a.2 x = true ∨ carB a.2 (restL a.1 x) = true, ⟨none, rfl, fun x hx => by cases hx⟩, fun _ _ _ _ _ z => z, fun i d x σ' H' hd e4 z rd => ?_, fun σ' H' e4 z => ?_⟩
    · obtain ⟨y, rfl, hx⟩ := z
      have e04 := ((e1.trans e2).trans e3).trans e4
      have hd' := (hls.1 d).mp (List.mem_of_getElem? hd)
      refine s_if (Evl.et_and (a := !carB a.2 d) (b := !carB a.2 (restL a.1 d)) (Evl.et_not (et_B (ev_call (a := (a.2, d)) ⟨hl, hll⟩ (ea_cons (ev_var rfl (mo e04 r2)) (ea1 (ev_var rfl rd)))))) fun _ => Evl.et_not (et_B (ev_call (a := (a.2, restL a.1 d)) ⟨hl, hll⟩ (ea_cons (ev_var rfl (mo e04 r2)) (ea1 (ev_call (a := ((a.1 : Int), d)) ⟨by omega, by omega⟩ (ea_cons (ev_var rfl (mo e04 r1)) (ea1 (ev_var rfl rd))))))))) (fun hb H5 e5 => ?_) fun hb H5 e5 => ?_
      · rw [Bool.and_eq_true, Bool.not_eq_true', Bool.not_eq_true'] at hb
        refine s_ret (ev_var rfl (mo e5 rd)) fun v6 H6 e6 r6 => q v6 H6 ((e04.trans e5).trans e6) ?_
        obtain ⟨b, rfl, _⟩ := lot_raw r6
        refine ⟨fun z => (by cases z), fun z => ?_⟩
        rcases (ou_lots hk.2 hls.1).mp z d (List.mem_of_getElem? hd) with c | c
        · rw [hb.1] at c
          cases c
        · rw [hb.2] at c
          cases c
      · refine ⟨e4.trans e5, some x, rfl, fun o ho => ?_⟩
        rw [List.take_add_one, hd] at ho
        rcases List.mem_append.mp ho with z | z
        · exact hx o z
        · rw [List.mem_singleton.mp z]
          cases c1 : carB a.2 d
          · cases c2 : carB a.2 (restL a.1 d)
            · rw [c1, c2] at hb
              cases hb
            · exact .inr rfl
          · exact .inl rfl
    · obtain ⟨y, rfl, hx⟩ := z
      rw [List.take_of_length_le (Nat.le_refl _)] at hx
      refine s_ret ev_c fun v5 H5 e5 r5 => q v5 H5 ((((e1.trans e2).trans e3).trans e4).trans e5) ⟨fun _ => (ou_lots hk.2 hls.1).mpr hx, fun _ => r5⟩
theorem ok_apart (T : Txt K mg) : FnOk P w K mg base CX0 6 T.apart.f T.apart.fd ["folk", "table"] (spP (fun a : Nat × List (List Int) => (1 ≤ a.1 ∧ a.1 ≤ 6) ∧ IsTab a.1 a.2) (fun a => [nI (a.1 : Nat), Tab a.2]) fun a => NonIf (¬ Dj a.2)) :=
  fn_p T.apart sc_apart (fun _ => rfl) fun cdv A outer s H E a vs hr hk p => by
    obtain ⟨v, u, rfl, r1, r2⟩ := ptwo p
    have hl := tab_len hk.1.2 hk.2
    have hll := tab_lots hk.1.2 hk.2
    refine ⟨_, (pss_cons (ps_expr (pe_cl T.check_table (ok_check_table T) hr (by decide) (by rfl) (pa_cons (pv 0) (pa_cons (pv 1) pa_nil))))
    (pss_cons (ps_for PassesOwn.never rfl (pi_enumT (by rfl) T.n_enumerate (pa_cons (pv 1) pa_nil)) (pg_tupK rfl (pgs_cons (pg_name (i := 2) sc_apart.nd rfl (.inl rfl)) (pgs_cons (pg_name (i := 3) sc_apart.nd rfl (.inl rfl)) pgs_nil)))
      (pss_one (ps_for PassesOwn.never rfl (piK (K := K) (r := fun K => iTup K _) (pi_tup (pe_slice (slK (K := K) (r := rSlA) sl_tupA) (pv 1) (po_some (pv 2)) po_none))) (pg_name (i := 4) sc_apart.nd rfl (.inr rfl))
      (pss_one (ps_if (pt_not (pt_val (pe_callB (crK (K := K) (r := rAny) (cr_any rfl)) (by rfl) T.n_any (by decide +kernel) (pa_cons (pe_lc (own := [("person", 5)]) rfl sc_apart.nd (piK (K := K) (r := fun K => iTup K _) (pi_tup (pv 3))) (blkOk_by (own := [("person", 5)]) (N := ["folk", "table", "at", "one", "other", "person"]) (sc := defScope s_apart) (by decide +kernel)) (fun _ _ _ _ _ => pg_name (i := 5) sc_apart.nd rfl (Or.inl rfl)) (fun _ _ _ _ _ => pts_nil) (fun _ _ _ _ _ => (pe_cmpR (opK (K := K) (r := fun K => rIn K false) op_inS) (pv 5) (pv 4) (by rfl)))) pa_nil)))) (pss_one (ps_ret (pe_tup (pa_cons (pv 3) (pa_cons (pv 4) pa_nil))))) pss_nil)))))
    (pss_one (ps_ret pe_non)))), fun Q q => ?_⟩
    refine q_drop (ev_call (a := a) hk (ea_cons (ev_var rfl r1) (ea1 (ev_var rfl r2)))) fun H1 e1 => ?_
    refine q_for (ei_enumT (ev_var rfl (mo e1 r2))) fun H2 e2 => ⟨fun i σ' H' => ∃ y z o, σ' = [some v, some u, y, z, o, none] ∧ ∀ j k x y, j < i → j ≤ k → a.2[j]? = some x → a.2[k]? = some y → meetsB x y = true, ⟨none, none, none, rfl, fun j k x y h => by omega⟩, fun _ _ _ _ _ z => z, fun i d x σ' H' hd e3 z rd => ?_, fun σ' H' e3 z => ?_⟩
    · obtain ⟨y, z, o, rfl, hx⟩ := z
      obtain ⟨d1, d2⟩ := numd_get hd
      have e03 := (e1.trans e2).trans e3
      refine g_num rd fun lv rl => ?_
      refine s_for (ei_tup (ev_slLo (R := Lot) (m := i) (ev_var rfl (mo e03 r2)) (ev_var (R := nI (i : Nat)) rfl (by rw [d1]; rfl)) rfl)) fun H4 e4 => ⟨fun k σ' H' => ∃ o, σ' = [some v, some u, some (.int (d.1 : Nat)), some lv, o, none] ∧ ∀ m y, m < k → (a.2.drop i)[m]? = some y → meetsB d.2 y = true, ⟨o, rfl, fun m y h => by omega⟩, fun _ _ _ _ _ z => z, fun k c x' σ' H' hc e5 z rc => ?_, fun σ' H' e5 z => ?_⟩
      · obtain ⟨o, rfl, hm⟩ := z
        have hc' : a.2[i + k]? = some c := by rw [← hc, List.getElem?_drop]
        refine s_if (Evl.et_not (et_B ((ev_any (ev_lcm (R := nI) (fun p => c.contains p) (ei_tup (ev_var rfl (mo (e4.trans e5) rl))) (by have := hll d.2 (List.mem_of_getElem? d2); omega) (fun _ => rfl) fun x2 p2 H6 e6 hp rp => ev_in (ev_var rfl rp) (ev_var rfl (mo e6 rc)))).eqB (any_id _ _)))) (fun hb H6 e6 => ?_) fun hb H6 e6 => ?_
        · rw [Bool.not_eq_true'] at hb
          have hdj : Dj a.2 := ⟨d.2, List.mem_of_getElem? d2, c, List.mem_of_getElem? hc', fun p hp hq => by
            have : meetsB d.2 c = true := meets_iff.mpr ⟨p, hp, hq⟩
            have hb' : meetsB d.2 c = false := hb
            rw [this] at hb'
            cases hb'⟩
          exact s_ret (ev_tup2 ⟨lv, fun H7 _ Q' q' => ⟨lv, rfl, q'⟩⟩ ⟨x', fun H7 _ Q' q' => ⟨x', rfl, q'⟩⟩ (fun z => z hdj)) fun v7 H7 e7 r7 => q v7 H7 ((((e03.trans e4).trans e5).trans e6).trans e7) r7
        · refine ⟨e5.trans e6, some x', rfl, fun m y hm' hy => ?_⟩
          rcases Nat.eq_or_lt_of_le (Nat.lt_succ_iff.mp hm') with z | z
          · subst z
            rw [hc] at hy
            cases hy
            have hb' : (!meetsB d.2 c) = false := hb
            cases w : meetsB d.2 c
            · rw [w] at hb'
              cases hb'
            · rfl
          · exact hm m y z hy
      · obtain ⟨o, rfl, hm⟩ := z
        refine ⟨e3.trans (e4.trans e5), _, _, _, rfl, fun j k x y hj hjk h1 h2 => ?_⟩
        rcases Nat.eq_or_lt_of_le (Nat.lt_succ_iff.mp hj) with z | z
        · subst z
          rw [d2] at h1
          cases h1
          have hlt := (List.getElem?_eq_some_iff.mp h2).1
          refine hm (k - j) y (by rw [List.length_drop]; omega) ?_
          rw [List.getElem?_drop, show j + (k - j) = k by omega]
          exact h2
        · exact hx j k x y z hjk h1 h2
    · obtain ⟨y, z, o, rfl, hx⟩ := z
      rw [numd_len] at hx
      refine s_ret ev_c fun v4 H4 e4 r4 => q v4 H4 (((e1.trans e2).trans e3).trans e4) ⟨fun _ => ?_, fun _ => r4⟩
      rintro ⟨b, hb, c, hc, hd⟩
      obtain ⟨j, hj⟩ := List.getElem?_of_mem hb
      obtain ⟨k, hk'⟩ := List.getElem?_of_mem hc
      have lj := (List.getElem?_eq_some_iff.mp hj).1
      have lk := (List.getElem?_eq_some_iff.mp hk').1
      by_cases hjk : j ≤ k
      · obtain ⟨p, h1, h2⟩ := meets_iff.mp (hx j k b c lj hjk hj hk')
        exact hd p h1 h2
      · obtain ⟨p, h1, h2⟩ := meets_iff.mp (hx k j c b lk (by omega) hk' hj)
        exact hd p h2 h1
end
end Rk
/-! the folk renamed -/
namespace Rk
open PySem PySem.Spec PyProof.Rows L2
open Evl (Ex EvT)
/-! ### lots and tables as data -/
def lotD (l : List Int) : PyData := .tuple (l.map .int)
def tabD (t : List (List Int)) : PyData := .tuple (t.map lotD)
theorem eqv_ints : ∀ a b : List Int, PyData.eqvAll (a.map .int) (b.map .int) = decide (a = b)
  | [], [] => by simp [PyData.eqvAll]
  | [], _ :: _ => by simp [PyData.eqvAll]
  | _ :: _, [] => by simp [PyData.eqvAll]
  | x :: a, y :: b => by
    rw [List.map_cons, List.map_cons, PyData.eqvAll, eqv_ints a b]
    have e : PyData.eqv (.int x) (.int y) = (x == y) := by simp [PyData.eqv]
    rw [e]
    by_cases h : x = y
    · subst h
      simp
    · simp [h]
theorem lotD_eqv (a b : List Int) : PyData.eqv (lotD a) (lotD b) = decide (a = b) := by
  unfold lotD
  rw [PyData.eqv, eqv_ints]
theorem eqv_lots : ∀ a b : List (List Int), PyData.eqvAll (a.map lotD) (b.map lotD) = decide (a = b)
  | [], [] => by simp [PyData.eqvAll]
  | [], _ :: _ => by simp [PyData.eqvAll]
  | _ :: _, [] => by simp [PyData.eqvAll]
  | x :: a, y :: b => by
    rw [List.map_cons, List.map_cons, PyData.eqvAll, eqv_lots a b, lotD_eqv]
    by_cases h : x = y
    · subst h
      simp
    · simp [h]
theorem tabD_eqv (a b : List (List Int)) : PyData.eqv (tabD a) (tabD b) = decide (a = b) := by
  unfold tabD
  rw [PyData.eqv, eqv_lots]
theorem lay_ints : ∀ l : List Int, PyData.canLayAll0 (l.map .int) = true
  | [] => by simp [PyData.canLayAll0]
  | x :: l => by
    rw [List.map_cons, PyData.canLayAll0, lay_ints l]
    simp [PyData.canLay0]
theorem dep_ints : ∀ l : List Int, PyData.depthAll (l.map .int) = 0
  | [] => by simp [PyData.depthAll]
  | x :: l => by
    rw [List.map_cons, PyData.depthAll, dep_ints l]
    simp [PyData.depth]
theorem lotD_lay (l : List Int) : (lotD l).canLay0 = true := by
  unfold lotD
  rw [PyData.canLay0, lay_ints]
theorem lotD_dep (l : List Int) : (lotD l).depth = 1 := by
  unfold lotD
  rw [PyData.depth, dep_ints]
theorem lay_lots : ∀ t : List (List Int), PyData.canLayAll0 (t.map lotD) = true
  | [] => by simp [PyData.canLayAll0]
  | x :: t => by rw [List.map_cons, PyData.canLayAll0, lay_lots t, lotD_lay]; rfl
theorem dep_lots : ∀ t : List (List Int), PyData.depthAll (t.map lotD) ≤ 1
  | [] => by simp [PyData.depthAll]
  | x :: t => by
    have := dep_lots t
    rw [List.map_cons, PyData.depthAll, lotD_dep]
    omega
theorem lotD_shaped (l : List Int) : SeqAt.shaped (lotD l) = true := by
  unfold SeqAt.shaped
  rw [lotD_lay, lotD_dep]
  decide
theorem tabD_shaped (t : List (List Int)) : SeqAt.shaped (tabD t) = true := by
  have h := dep_lots t
  unfold SeqAt.shaped tabD
  rw [PyData.canLay0, lay_lots, PyData.depth, Bool.true_and]
  exact decide_eq_true (by omega)
theorem lotsD_shaped (t : List (List Int)) : SeqAt.shaped (.list (t.map lotD)) = true := by
  have h := dep_lots t
  unfold SeqAt.shaped
  rw [PyData.canLay0, lay_lots, PyData.depth, Bool.true_and]
  exact decide_eq_true (by omega)
theorem ints_shaped (l : List Int) : SeqAt.shaped (.list (l.map .int)) = true := by
  have h := dep_ints l
  unfold SeqAt.shaped
  rw [PyData.canLay0, lay_ints, PyData.depth, Bool.true_and]
  exact decide_eq_true (by omega)
section
variable {K : PySem.W.Frag} {H : Hp}
theorem dp_ints : ∀ l : List Int, DpAll K H (l.map V.int) (l.map .int)
  | [] => .nil
  | x :: l => .cons (.int x) (dp_ints l)
theorem dp_lot {l : List Int} {v : V} (h : Lot l H v) : Dp K H v (lotD l) := by
  obtain ⟨a, rfl, e⟩ := lot_raw h
  exact .tup (SqT.of e) (dp_ints l)
theorem dp_lots : ∀ {vs : List V} {t : List (List Int)}, Paired (fun v l => Lot l H v) vs t → DpAll K H vs (t.map lotD)
  | _, _, .nil => .nil
  | _, _, .cons r t => .cons (dp_lot r) (dp_lots t)
theorem dp_tab {t : List (List Int)} {v : V} (h : Tab t H v) : Dp K H v (tabD t) := by
  obtain ⟨a, vs, rfl, e, p⟩ := h
  exact .tup (SqT.of e) (dp_lots p)
theorem dp_list {t : List (List Int)} {v : V} (h : Lots t H v) : Dp K H v (.list (t.map lotD)) := by
  obtain ⟨a, vs, rfl, e, p⟩ := h
  exact .lst (SqL.of e) (dp_lots p)
theorem dp_intl {l : List Int} {v : V} (h : Ints l H v) : Dp K H v (.list (l.map .int)) := by
  obtain ⟨a, rfl, e⟩ := ints_raw h
  exact .lst (SqL.of e) (dp_ints l)
end
section
variable {K : PySem.W.Frag} {σ : L2.St} {H : Hp} {ta tb te : TE}
theorem ev_rgl {n : Int} (h : EvX te σ H (nI n)) (h0 : 0 ≤ n) (h1 : n ≤ 1000) : EvX (tLstRg (tRg1 te)) σ H (Ints (rng n)) := fun H1 e Q q => h H1 e _ fun v H2 e2 r => by
  cases r
  refine ⟨n, rfl, .of_le (by omega) (by omega) (by omega) (by omega), fun d hd => q _ _ (e2.trans (Ex.new hd)) (raw_ints ?_)⟩
  rw [upd_same]
  congr 2
  unfold rgV rng
  rw [List.map_map, Int.sub_zero]
  exact List.map_congr_left fun i _ => by
    show V.int (0 + (i : Int)) = V.int (i : Int)
    rw [Int.zero_add]
theorem ev_sortT {l : List Int} (h : EvX te σ H (Lot l)) (hl : l.length < 64) : EvX (tCB (rSortTupI K) (tCons te tNil)) σ H (ExR Ints fun l' => l'.Perm l ∧ l'.Pairwise (· ≤ ·)) := ev_cb1 h fun v H2 _ s Q q => by
  obtain ⟨a, rfl, e⟩ := lot_raw s
  exact ⟨a, l, rfl, SqT.of e, hl, fun ns d pm pw hd => q _ _ (Ex.new hd) ⟨ns, ⟨pm, pw⟩, raw_ints upd_same⟩⟩
theorem ev_sortI {l : List Int} (h : EvX te σ H (Ints l)) : EvX (tCB (rSortedI K) (tCons te tNil)) σ H (ExR Ints fun l' => l'.Perm l ∧ l'.Pairwise (· ≤ ·)) := ev_cb1 h fun v H2 _ s Q q => by
  obtain ⟨a, rfl, e⟩ := ints_raw s
  exact ⟨a, l, rfl, SqL.of e, fun ns d pm pw hd => q _ _ (Ex.new hd) ⟨ns, ⟨pm, pw⟩, raw_ints upd_same⟩⟩
/-- the dict from each of o to its place -/
def Dct (o : List Int) : RP := fun H v => ∃ a kvs, v = .ref a ∧ H a = some (.dK kvs) ∧ ∀ (j : Nat) p, o[j]? = some p → valV kvs (Sum.inl p : Key) = some (.int (j : Nat))
instance {o : List Int} : Mo (Dct o) := ⟨fun e ⟨a, kvs, h1, h2, h3⟩ => ⟨a, kvs, h1, e a _ h2, h3⟩⟩
theorem ev_dc {wi : TI} {o : List Int} {vs : List Nat} {i j : Nat} (nd : o.Nodup) (hz : o.length ≤ 50000) (h : EiX wi σ H (Num nI) (numd o)) (hw : ∀ x y, wipe (((wipe σ vs).set i (some x)).set j (some y)) vs = wipe σ vs)
    (hi : ∀ x y, (((wipe σ vs).set i (some x)).set j (some y))[i]? = some (some x)) (hj : ∀ x y, (((wipe σ vs).set i (some x)).set j (some y))[j]? = some (some y)) :
    EvX (tDc wi (gTup K 2 (gCons (gName i) (gCons (gName j) gNil))) tYes (tVar j) (tVar i) vs) σ H (Dct o) := fun H0 e0 Q q => h H0 e0 _ fun J H1 e1 wk => fun D hD => by
  refine ⟨fun m k H' => k = o.length - m ∧ m ≤ o.length ∧ Ex H1 H' ∧ ∃ kvs, H' D = some (.dK kvs) ∧ kvs.length ≤ m ∧ ∀ (a : Nat) p, a < m → o[a]? = some p → valV kvs (Sum.inl p : Key) = some (.int (a : Nat)), ⟨o.length, by omega, Nat.zero_le _, Ex.new hD, [], upd_same, Nat.le_refl _, fun a p ha => by omega⟩, ?_⟩
  rintro m k H' ⟨rfl, hm, eH, kvs, hk, hl, hv⟩
  have w := wk H' eH
  by_cases hlt : m < o.length
  · refine .inr ?_
    have hlt' : m < (numd o).length := by
      rw [numd_len]
      exact hlt
    have hd : (numd o)[m]? = some (numd o)[m] := List.getElem?_eq_getElem hlt'
    obtain ⟨w1, w2⟩ := w.1 m _ hd
    obtain ⟨d1, d2⟩ := numd_get hd
    refine ⟨w1, fun H'' => Ex H1 H'' ∧ ∃ kvs, H'' D = some (.dK kvs) ∧ kvs.length ≤ m + 1 ∧ ∀ (a : Nat) p, a < m + 1 → o[a]? = some p → valV kvs (Sum.inl p : Key) = some (.int (a : Nat)), fun H'' z => ⟨o.length - (m + 1), by omega, rfl, hlt, z⟩, fun x H4 y => ?_⟩
    obtain ⟨e4, r4⟩ := w2 x H4 y
    refine g_num r4 fun py ry => ⟨hw _ _, ?_⟩
    simp only [tYes, if_true]
    cases ry
    refine ⟨_, hj _ _, _, hi _ _, kvs, Sum.inl (numd o)[m].2, rfl, e4 D _ hk, Evl.sz_lt (by omega), (eH.trans e4).mut hD, _, upd_same, Nat.le_trans (length_putK _ _ _) (by omega), fun a p ha hp => ?_⟩
    rw [valV_put]
    by_cases e : p = (numd o)[m].2
    · rw [if_pos (by rw [e])]
      rw [e] at hp
      rw [nd_ix nd hp d2, d1]
    · rw [if_neg (fun z => e (Sum.inl.inj z))]
      rcases Nat.eq_or_lt_of_le (Nat.lt_succ_iff.mp ha) with z | z
      · subst z
        rw [d2] at hp
        exact absurd (Option.some.inj hp).symm e
      · exact hv a p z hp
  · refine .inl ?_
    have hm' : m = o.length := by omega
    subst hm'
    refine ⟨by rw [← numd_len o]; exact w.2, q _ H' (e1.trans eH) ⟨D, kvs, rfl, hk, fun a p hp => hv a p (List.getElem?_eq_some_iff.mp hp).1 hp⟩⟩
theorem ev_dget {o : List Int} {p : Int} {m : Nat} (ha : EvX ta σ H (Dct o)) (hb : EvX tb σ H (nI p)) (hp : o[m]? = some p) : EvX (tDGet ta tb) σ H (nI (m : Nat)) := fun H1 e Q q =>
  ha H1 e _ fun v H2 e2 r => hb H2 (e.trans e2) _ fun u H3 e3 r3 => by
    obtain ⟨a, kvs, rfl, hk, hv⟩ := r
    cases r3
    have g := DGet.k (k := Sum.inl p) (e3 a _ hk)
    rw [hv m p hp] at g
    exact ⟨a, _, rfl, g, q _ H3 (e2.trans e3) rfl⟩
end
/-! ### orders -/
def pi_ (o : List Int) (p : Int) : Int := ((o.idxOf p : Nat) : Int)
theorem pi_at {o : List Int} {p : Int} (h : p ∈ o) : o[o.idxOf p]? = some p := by
  have hl := List.idxOf_lt_length_of_mem h
  rw [List.getElem?_eq_getElem hl, List.getElem_idxOf hl]
/-- a lot with its folk renamed, in order -/
def renL (o : List Int) (l : List Int) : List Int := (rng 6).filter fun q => (l.map (pi_ o)).contains q
section
variable {n : Nat} {o l : List Int}
theorem ord_mem (hp : o.Perm (rng n)) {p : Int} : p ∈ o ↔ 0 ≤ p ∧ p < n := by
  rw [hp.mem_iff, mem_rng]
theorem ord_nd (hp : o.Perm (rng n)) : o.Nodup := hp.nodup_iff.mpr ((rng_asc n).imp fun h => by omega)
theorem pi_lt (hp : o.Perm (rng n)) {p : Int} (h0 : 0 ≤ p) (h1 : p < n) : 0 ≤ pi_ o p ∧ pi_ o p < n := by
  have := List.idxOf_lt_length_of_mem ((ord_mem hp).mpr ⟨h0, h1⟩)
  have hl := hp.length_eq
  rw [rng_len] at hl
  unfold pi_
  omega
theorem pi_inj (hp : o.Perm (rng n)) {p q : Int} (h0 : 0 ≤ p) (h1 : p < n) (h2 : 0 ≤ q) (h3 : q < n) (e : pi_ o p = pi_ o q) : p = q := by
  have a := pi_at ((ord_mem hp).mpr ⟨h0, h1⟩)
  have b := pi_at ((ord_mem hp).mpr ⟨h2, h3⟩)
  have : o.idxOf p = o.idxOf q := by
    unfold pi_ at e
    omega
  rw [this, b] at a
  exact (Option.some.inj a).symm
theorem ren_nd (hp : o.Perm (rng n)) (hl : IsLot n l) : (l.map (pi_ o)).Nodup := List.pairwise_map.mpr (List.Pairwise.imp_of_mem (fun {a b} ha hb hab e => by
  have x := hl.2 a ha
  have y := hl.2 b hb
  have := pi_inj hp x.1 x.2 y.1 y.2 e
  omega) hl.1)
theorem mem_ren (h6 : n ≤ 6) (hp : o.Perm (rng n)) (hl : IsLot n l) {q : Int} : q ∈ renL o l ↔ q ∈ l.map (pi_ o) := by
  unfold renL
  rw [List.mem_filter, mem_rng]
  constructor
  · rintro ⟨_, h⟩
    simpa using h
  · intro h
    obtain ⟨p, hm, rfl⟩ := List.mem_map.mp h
    have x := hl.2 p hm
    have := pi_lt hp x.1 x.2
    exact ⟨by omega, by simpa using h⟩
theorem ren_asc : (renL o l).Pairwise (· < ·) := (rng_asc 6).filter _
theorem ren_perm (h6 : n ≤ 6) (hp : o.Perm (rng n)) (hl : IsLot n l) : (renL o l).Perm (l.map (pi_ o)) :=
  (List.perm_ext_iff_of_nodup (ren_asc.imp fun h => by omega) (ren_nd hp hl)).mpr fun q => mem_ren h6 hp hl
theorem ren_uniq (h6 : n ≤ 6) (hp : o.Perm (rng n)) (hl : IsLot n l) {l' : List Int} (pm : l'.Perm (l.map (pi_ o))) (pw : l'.Pairwise (· ≤ ·)) : l' = renL o l := by
  have nd := pm.nodup_iff.mpr (ren_nd hp hl)
  refine asc_ext ((nd.and pw).imp fun {x y} q => ?_) ren_asc fun q => by rw [pm.mem_iff, mem_ren h6 hp hl]
  have := q.1
  have := q.2
  omega
end
section
variable {P : Program} {w : World} {K : PySem.W.Frag} {mg : Str → Option Value} {base : Heap}
theorem ok_is_order (T : Txt K mg) : FnOk P w K mg base CX0 2 T.is_order.f T.is_order.fd ["thing", "many"] (spP (fun a : List Int × Nat => a.2 ≤ 6 ∧ a.1.Perm (rng a.2)) (fun a => [Lot a.1, nI (a.2 : Nat)]) fun _ => nB true) :=
  fn_p T.is_order sc_is_order (fun _ => rfl) fun cdv A outer s H E a vs hr hk p => by
    obtain ⟨v, u, rfl, r1, r2⟩ := ptwo p
    have hl := hk.2.length_eq
    rw [rng_len] at hl
    refine ⟨_, (pss_cons (ps_if (PW.pt (pw_or (pt_not (pt_val (pe_callB (crK (K := K) (r := rIsi) call_isi) (by rfl) T.n_isinstance (by decide +kernel) (pa_cons (pv 0) (pa_cons (pe_bltn (v := .ty "tuple") (by rfl) T.n_tuple (by decide +kernel) rfl) pa_nil))))) (pw_or (pt_cmpR op_ne (pe_callB (crK (K := K) (r := rLenX) cr_len) (by rfl) T.n_len (by decide +kernel) (pa_cons (pv 0) pa_nil)) (pv 1) (nomark _)) (pw_or1 (pt_not (pt_val (pe_callB (crK (K := K) (r := rAll) (cr_all rfl)) (by rfl) T.n_all (by decide +kernel) (pa_cons (pe_lc (own := [("number", 2)]) rfl sc_is_order.nd (piK (K := K) (r := fun K => iTup K _) (pi_tup (pv 0))) (blkOk_by (own := [("number", 2)]) (N := ["thing", "many", "number"]) (sc := defScope s_is_order) (by decide +kernel)) (fun _ _ _ _ _ => pg_name (i := 2) sc_is_order.nd rfl (Or.inl rfl)) (fun _ _ _ _ _ => pts_nil) (fun _ _ _ _ _ => (pe_cl T.is_integer (ok_is_integer T) hr (by decide) (by rfl) (pa_cons (pv 2) pa_nil)))) pa_nil)))))))) (pss_one (ps_ret pe_bl)) pss_nil)
    (pss_one (ps_ret (pe_cmpR (opK (K := K) (r := rEqD) (op_eqD hr.units)) (pe_callB (crK (K := K) (r := rSortTupI) cr_sortTupI) (by rfl) T.n_sorted (by decide +kernel) (pa_cons (pv 0) pa_nil)) (pe_listRg rfl (by rfl) T.n_list (prg_1 (by rfl) T.n_range (pv 1))) (nomark _))))), fun Q q => ?_⟩
    refine q_skip (Evl.et_or (a := false) (b := false) (Evl.et_not (a := true) (et_B (ev_isi (ev_var rfl r1) ev_c ty_tup (by decide +kernel)))) fun _ => Evl.et_or (a := false) (b := false) (et_test (ev_ne (ev_lenT (ev_var rfl r1)) (ev_var rfl r2) rfl ?_)) fun _ => Evl.et_not (a := true) (et_B ((ev_all (ev_lcm (fun _ => true) (ei_tup (ev_var rfl r1)) (by omega) (fun _ => rfl) fun x d H1 e hd rd => ?_)).eqB (all_yes _)))) fun H1 e1 => ?_
    · rw [decide_eq_true]
      · rfl
      · congr 1
        omega
    · exact ev_call (a := d) trivial (ea1 (ev_var rfl rd))
    · refine s_ret (ev_op (R := ExR Ints fun l' => l'.Perm a.1 ∧ l'.Pairwise (· ≤ ·)) (T := nB true) (ev_sortT (ev_var rfl (mo e1 r1)) (by omega)) (ev_rgl (ev_var rfl (mo e1 r2)) (by omega) (by omega)) fun x y H3 _ h1 h2 Q' q' => ?_) fun v2 H2 e2 r => q v2 H2 (e1.trans e2) r
      obtain ⟨l', ⟨pm, pw⟩, rl⟩ := h1
      have nd := pm.nodup_iff.mpr (ord_nd hk.2)
      have e : l' = rng a.2 := asc_ext ((nd.and pw).imp fun {x y} q => by
        have := q.1
        have := q.2
        omega) (rng_asc _) fun q => by rw [pm.mem_iff, hk.2.mem_iff]
      subst e
      refine ⟨_, _, dp_intl rl, dp_intl h2, ints_shaped _, ints_shaped _, q' _ H3 (Ex.refl H3) ?_⟩
      rw [PyData.eqv, eqv_ints, decide_eq_true rfl]
      rfl
theorem ok_renamed_by (T : Txt K mg) : FnOk P w K mg base CX0 1 T.renamed_by.f T.renamed_by.fd ["table", "order"] (spP (fun a : Nat × List (List Int) × List Int => a.1 ≤ 6 ∧ IsTab a.1 a.2.1 ∧ a.2.2.Perm (rng a.1)) (fun a => [Tab a.2.1, Lot a.2.2]) fun a => ExR Tab fun t => t.Perm (a.2.1.map (renL a.2.2)) ∧ t.Pairwise fun x y => HT.lexLt y x = false) :=
  fn_p T.renamed_by sc_renamed_by (fun _ => rfl) fun cdv A outer s H E a vs hr hk p => by
    obtain ⟨v, u, rfl, r1, r2⟩ := ptwo p
    obtain ⟨h6, ht, ho⟩ := hk
    have hl := ho.length_eq
    rw [rng_len] at hl
    have htl := tab_len h6 ht
    refine ⟨_, (pss_cons (ps_set (i := 2) sc_renamed_by.nd rfl (.inr rfl) (pe_dc (own := [("place", 3), ("person", 4)]) rfl sc_renamed_by.nd (pi_enumT (by rfl) T.n_enumerate (pa_cons (pv 1) pa_nil)) (blkOk_by (own := [("place", 3), ("person", 4)]) (N := ["table", "order", "places", "place", "person", "lot"]) (sc := defScope s_renamed_by) (by decide +kernel)) (fun _ _ _ _ _ => pg_tupK (n := 2) rfl ((pgs_cons (pg_name (i := 3) sc_renamed_by.nd rfl (Or.inl rfl)) (pgs_cons (pg_name (i := 4) sc_renamed_by.nd rfl (Or.inl rfl)) pgs_nil)))) (fun _ _ _ _ _ => pts_nil) (fun _ _ _ _ _ => (pv 4)) (fun _ _ _ _ _ => (pv 3))))
    (pss_one (ps_ret (pe_callTy (crK (K := K) (r := rTupX) cr_tuple) (by rfl) T.n_tuple (by decide +kernel) (pa_cons (pe_callB (crK (K := K) (r := rSortLots) (cr_sortLots (hu2 hr))) (by rfl) T.n_sorted (by decide +kernel) (pa_cons (pe_lc (own := [("lot", 5)]) rfl sc_renamed_by.nd (piK (K := K) (r := fun K => iTup K _) (pi_tup (pv 0))) (blkOk_by (own := [("lot", 5)]) (N := ["table", "order", "places", "place", "person", "lot"]) (sc := defScope s_renamed_by) (by decide +kernel)) (fun _ _ _ _ _ => pg_name (i := 5) sc_renamed_by.nd rfl (Or.inl rfl)) (fun _ _ _ _ _ => pts_nil) (fun _ _ _ _ _ => (pe_callTy (crK (K := K) (r := rTupX) cr_tuple) (by rfl) T.n_tuple (by decide +kernel) (pa_cons (pe_callB (crK (K := K) (r := rSortedI) cr_sortedI) (by rfl) T.n_sorted (by decide +kernel) (pa_cons (pe_lc (own := [("person", 4)]) rfl sc_renamed_by.nd (piK (K := K) (r := fun K => iTup K _) (pi_tup (pv 5))) (blkOk_by (own := [("person", 4)]) (N := ["table", "order", "places", "place", "person", "lot"]) (sc := (relS { kind := .function, names := [(".0", .local), ("lot", .local), ("tuple", .globalImplicit), ("sorted", .globalImplicit), ("places", .free)], isGenerator := false, isCoroutine := false } (defScope s_renamed_by))) (by decide +kernel)) (fun _ _ _ _ _ => pg_name (i := 4) sc_renamed_by.nd rfl (Or.inl rfl)) (fun _ _ _ _ _ => pts_nil) (fun _ _ _ _ _ => (pe_dget (hu_of hr) (pv 2) (pv 4) (fun _ _ => rfl)))) pa_nil)) pa_nil)))) pa_nil)) pa_nil))))), fun Q q => ?_⟩
    refine q_set (ev_dc (i := 3) (j := 4) (ord_nd ho) (by omega) (ei_enumT (ev_var rfl r2)) (fun _ _ => rfl) (fun _ _ => rfl) (fun _ _ => rfl)) fun v1 H1 e1 q1 => ?_
    refine s_ret (ev_tupleE (ev_sortLots (ev_lcm (S := Lot) (renL a.2.2) (ei_tup (ev_var rfl (mo e1 r1))) (by omega) (fun _ => rfl) fun x d H2 e2 hd rd => ?_))) fun v2 H2 e2 r => q v2 H2 (e1.trans e2) r
    have hld := ht.lots d hd
    refine (ev_tupleE (ev_sortI (ev_lcm (S := nI) (pi_ a.2.2) (ei_tup (ev_var rfl rd)) (by have := lot_len hld (by omega); omega) (fun _ => rfl) fun x3 p3 H3 e3 hp3 rp3 => ?_))).imp fun H4 v4 r4 => ?_
    · exact ev_dget (ev_var rfl (mo (e2.trans e3) q1)) (ev_var rfl rp3) (pi_at ((ord_mem ho).mpr (hld.2 p3 hp3)))
    · obtain ⟨l', ⟨pm, pw⟩, rl⟩ := r4
      rw [ren_uniq h6 ho hld pm pw] at rl
      exact rl
theorem ok_renamed (T : Txt K mg) : FnOk P w K mg base CX0 6 T.renamed.f T.renamed.fd ["folk", "table", "order"] (spP (fun a : Nat × List (List Int) × List Int => (1 ≤ a.1 ∧ a.1 ≤ 6) ∧ IsTab a.1 a.2.1 ∧ a.2.2.Perm (rng a.1)) (fun a => [nI (a.1 : Nat), Tab a.2.1, Lot a.2.2]) fun a => ExR Tab fun t => IsTab a.1 t ∧ (Dj t ↔ Dj a.2.1) ∧ (Ou t ↔ Ou a.2.1)) :=
  fn_p T.renamed sc_renamed (fun _ => rfl) fun cdv A outer s H E a vs hr hk p => by
    obtain ⟨v, u, x, rfl, r1, r2, r3⟩ := pthree p
    obtain ⟨h6, ht, ho⟩ := hk
    refine ⟨_, (pss_cons (ps_expr (pe_cl T.check_table (ok_check_table T) hr (by decide) (by rfl) (pa_cons (pv 0) (pa_cons (pv 1) pa_nil))))
    (pss_cons (ps_if (pt_not (pt_val (pe_cl T.is_order (ok_is_order T) hr (by decide) (by rfl) (pa_cons (pv 2) (pa_cons (pv 0) pa_nil))))) (pss_one ps_never) pss_nil)
    (pss_one (ps_ret (pe_cl T.renamed_by (ok_renamed_by T) hr (by decide) (by rfl) (pa_cons (pv 1) (pa_cons (pv 2) pa_nil))))))), fun Q q => ?_⟩
    refine q_drop (ev_call (a := (a.1, a.2.1)) ⟨h6, ht⟩ (ea_cons (ev_var rfl r1) (ea1 (ev_var rfl r2)))) fun H1 e1 => ?_
    refine q_skip (Evl.et_not (a := true) (et_B (ev_call (a := (a.2.2, a.1)) ⟨h6.2, ho⟩ (ea_cons (ev_var rfl (mo e1 r3)) (ea1 (ev_var rfl (mo e1 r1))))))) fun H2 e2 => ?_
    refine s_ret (ev_call (a := a) ⟨h6.2, ht, ho⟩ (ea_cons (ev_var rfl (mo (e1.trans e2) r2)) (ea1 (ev_var rfl (mo (e1.trans e2) r3))))) fun v3 H3 e3 r => q v3 H3 ((e1.trans e2).trans e3) ?_
    obtain ⟨t, ⟨pm, pw⟩, rt⟩ := r
    exact ⟨t, ren_ok ht (fun p p0 p1 => pi_lt ho p0 p1) (fun p q a b c d e => pi_inj ho a b c d e) (fun l hl => ⟨ren_perm h6.2 ho (ht.lots l hl), ren_asc.imp fun h => Int.le_of_lt h⟩) pm pw, rt⟩
end
end Rk
/-! the law's own defs that draw nothing -/
namespace Rk
open PySem PySem.Spec PyProof.Rows L2
open Evl (Ex EvT)
section
variable {K : PySem.W.Frag} {σ : L2.St} {H : Hp} {ta tb te : TE}
theorem ev_neLot {a b : List Int} (ha : EvX ta σ H (Lot a)) (hb : EvX tb σ H (Lot b)) : EvX (tOp (rNeD K) ta tb) σ H (nB (!decide (a = b))) := ev_op ha hb fun x y H3 _ h1 h2 Q q =>
  ⟨lotD a, lotD b, dp_lot h1, dp_lot h2, lotD_shaped _, lotD_shaped _, q _ H3 (Ex.refl _) (by rw [lotD_eqv]; exact rfl)⟩
theorem ev_allE {b : Bool} (h : EvX te σ H (ExR Bls fun bs => bs.all id = b)) : EvX (tCB (rAll K) (tCons te tNil)) σ H (nB b) := ev_cb1 h fun v H2 _ s Q q => by
  obtain ⟨bs, hb, s⟩ := s
  obtain ⟨a, rfl, e⟩ := bls_raw s
  exact ⟨a, bs, rfl, SqL.of e, q _ H2 (Ex.refl H2) (congrArg V.bl hb)⟩
theorem in_lots (l : List Int) : ∀ c : List (List Int), ((c.map lotD).any fun z => PyData.eqv z (lotD l)) = decide (l ∈ c)
  | [] => by simp
  | x :: c => by
    rw [List.map_cons, List.any_cons, in_lots l c, lotD_eqv]
    by_cases h : x = l
    · subst h
      simp
    · simp [h, Ne.symm h]
theorem ev_inLots {l : List Int} {c : List (List Int)} (ha : EvX ta σ H (Lot l)) (hb : EvX tb σ H (Lots c)) : EvX (tOp (rInD K) ta tb) σ H (nB (decide (l ∈ c))) := ev_op ha hb fun x y H3 _ h1 h2 Q q =>
  ⟨lotD l, c.map lotD, dp_lot h1, dp_list h2, lotD_shaped _, lotsD_shaped _, q _ H3 (Ex.refl _) (by rw [in_lots]; exact rfl)⟩
end
open Classical in
noncomputable def ouB (t : List (List Int)) : Bool := decide (Ou t)
theorem ouB_iff {t : List (List Int)} : ouB t = true ↔ Ou t := by
  unfold ouB
  exact @decide_eq_true_iff (Ou t) (Classical.propDecidable _)
section
variable {P : Program} {w : World} {K : PySem.W.Frag} {mg : Str → Option Value} {base : Heap}
theorem ok_law_lots (T : Txt K mg) : FnOk P w K mg base CX0 1 T.law_lots.f T.law_lots.fd ["_law_folk"] (spP (fun n : Nat => n ≤ 6) (fun n => [nI (n : Nat)]) fun n => ExR Lots (AllLots n)) :=
  fn_p T.law_lots sc_law_lots (fun _ => rfl) fun cdv A outer s H E n vs hr hk p => by
    obtain ⟨v, rfl, r⟩ := pone p
    refine ⟨_, (pss_cons (ps_set (i := 1) sc_law_lots.nd rfl (.inl rfl) (pe_lst (pa_cons (pe_tup pa_nil) pa_nil)))
    (pss_cons (ps_for PassesOwn.never rfl (pi_range1 (by rfl) T.n_range (pa_cons (pv 0) pa_nil)) (pg_name (i := 2) sc_law_lots.nd rfl (.inr rfl))
      (pss_one (ps_set (i := 1) sc_law_lots.nd rfl (.inl rfl) (pe_op op_cat (pv 1) (pe_lc (own := [("_law_lot", 3)]) rfl sc_law_lots.nd (piK (K := K) (r := fun K => iList K _) (pi_list (pv 1))) (blkOk_by (own := [("_law_lot", 3)]) (N := ["_law_folk", "_law_found", "_law_person", "_law_lot"]) (sc := defScope s_law_lots) (by decide +kernel)) (fun _ _ _ _ _ => pg_name (i := 3) sc_law_lots.nd rfl (Or.inl rfl)) (fun _ _ _ _ _ => pts_nil) (fun _ _ _ _ _ => (pe_op (opK (K := K) (r := rCatA) op_catA) (pv 3) (pe_tup (pa_cons (pv 2) pa_nil)))))))))
    (pss_one (ps_ret (pe_callB (crK (K := K) (r := rSortLots) (cr_sortLots (hu2 hr))) (by rfl) T.n_sorted (by decide +kernel) (pa_cons (pv 1) pa_nil)))))), fun Q q => ?_⟩
    refine q_set (ev_lst1 (T := Lot) (d := []) ev_tup0) fun v1 H1 e1 r1 => ?_
    refine q_for (ei_rng1 (ev_var rfl (mo e1 r)) (by omega) (by omega)) fun H2 e2 => ⟨fun i σ' H' => ∃ v2 y ls, σ' = [some v, some v2, y, none] ∧ Lots ls H' v2 ∧ (∀ l, l ∈ ls ↔ IsLot i l) ∧ ls.length = 2 ^ i, ⟨v1, none, [[]], rfl, mo e2 r1, lots_zero, rfl⟩, fun i σ' H' H'' e z => ?_, fun i d x σ' H' hd e3 z rd => ?_, fun σ' H' e3 z => ?_⟩
    · obtain ⟨v2, y, ls, hσ, hl, z⟩ := z
      exact ⟨v2, y, ls, hσ, mo e hl, z⟩
    · obtain ⟨v2, y, ls, rfl, rl, hm, hl⟩ := z
      obtain ⟨rfl, hi⟩ := rng_get hd
      have i6 : i ≤ 6 := by omega
      have h64 := two6 i6
      cases rd
      refine s_set (ev_catL (T := Lot) (ev_var rfl rl) (ev_lcm (R := Lot) (S := Lot) (fun l => l ++ [(i : Int)]) (ei_list (ev_var rfl rl)) (by omega) (fun _ => rfl) fun x d H3 e3 hd rd => ?_) (by rw [List.length_map]; omega)) fun v3 H3 e4 r3 => ?_
      · have := lot_len ((hm d).mp hd) (by omega)
        exact ev_catT (ev_var rfl rd) (ev_tup1 (T := nI) (ev_var rfl rfl)) (by show d.length + 1 ≤ 100000; omega)
      · refine ⟨e3.trans e4, v3, _, _, rfl, r3, lots_step hm, ?_⟩
        rw [List.length_append, List.length_map, hl, Nat.pow_succ]
        omega
    · obtain ⟨v2, y, ls, rfl, rl, hm, hl⟩ := z
      rw [rng_len, Int.toNat_natCast] at hm hl
      have h64 := two6 hk
      refine s_ret (ev_sortLots (ev_var rfl rl)) fun v4 H4 e4 r4 => q v4 H4 (((e1.trans e2).trans e3).trans e4) ?_
      obtain ⟨ls', ⟨pm, _⟩, r⟩ := r4
      exact ⟨ls', ⟨fun l => by rw [pm.mem_iff, hm], by rw [pm.length_eq]; omega⟩, r⟩
theorem ok_law_least (T : Txt K mg) : FnOk P w K mg base CX0 2 T.law_least.f T.law_least.fd ["_law_lots_here"] (spP (fun ls : List (List Int) => ls.length ≤ 1000 ∧ ∀ l ∈ ls, l.length ≤ 1000) (fun ls => [Lots ls]) fun ls => ExR Tab fun t => t.Perm (leastL ls) ∧ t.Pairwise fun x y => HT.lexLt y x = false) :=
  fn_p T.law_least sc_law_least (fun _ => rfl) fun cdv A outer s H E ls vs hr hk p => by
    obtain ⟨v, rfl, r⟩ := pone p
    refine ⟨_, (pss_cons (ps_set (i := 1) sc_law_least.nd rfl (.inl rfl) (pe_lst pa_nil))
    (pss_cons (ps_for PassesOwn.never rfl (piK (K := K) (r := fun K => iList K _) (pi_list (pv 0))) (pg_name (i := 2) sc_law_least.nd rfl (.inr rfl))
      (pss_one (ps_if (pt_not (pt_val (pe_callB (crK (K := K) (r := rAny) (cr_any rfl)) (by rfl) T.n_any (by decide +kernel) (pa_cons (pe_lc (own := [("_law_other", 3)]) rfl sc_law_least.nd (piK (K := K) (r := fun K => iList K _) (pi_list (pv 0))) (blkOk_by (own := [("_law_other", 3)]) (N := ["_law_lots_here", "_law_found", "_law_lot", "_law_other"]) (sc := defScope s_law_least) (by decide +kernel)) (fun _ _ _ _ _ => pg_name (i := 3) sc_law_least.nd rfl (Or.inl rfl)) (fun _ _ _ _ _ => pts_nil) (fun _ _ _ _ _ => (pe_and (pe_cmpR (opK (K := K) (r := rNeD) (op_neD hr.units)) (pv 3) (pv 2) (nomark _)) (pe_one (pe_cl T.law_part (ok_law_part T) hr (by decide) (by rfl) (pa_cons (pv 3) (pa_cons (pv 2) pa_nil))))))) pa_nil)))) (pss_one (ps_expr (pe_bm PySem.F.plainAttrs_list PySem.F.slot_list_append PySem.F.type_list_append mt_append (pv 1) (pa_cons (pv 2) pa_nil)))) pss_nil)))
    (pss_one (ps_ret (pe_callTy (crK (K := K) (r := rTupX) cr_tuple) (by rfl) T.n_tuple (by decide +kernel) (pa_cons (pe_callB (crK (K := K) (r := rSortLots) (cr_sortLots (hu2 hr))) (by rfl) T.n_sorted (by decide +kernel) (pa_cons (pv 1) pa_nil)) pa_nil)))))), fun Q q => ?_⟩
    refine q_set (ev_lst0F (R := Lot)) fun v1 H1 e1 r1 => ?_
    obtain ⟨a, vs, rfl, hA, pA, nA⟩ := r1
    obtain ⟨b, us, rfl, hB, pB⟩ := r
    refine Evl.q_forL (K := K) (a := b) (xs := us) (Evl.ev_var rfl) (SqL.of (e1 b _ hB)) (fun i σ' H' => ∃ y, σ' = [some (.ref b), some (.ref a), y, none] ∧ Ex H H' ∧ ∃ vs, H' a = some (.lst vs) ∧ Paired (fun v l => Lot l H' v) vs ((ls.take i).filter fun l => !ls.any fun o => (!decide (o = l)) && partB o l)) (fun H2 e2 => ⟨none, rfl, e1.trans e2, vs, e2 a _ hA, pmo e2 pA⟩) (fun i σ' H' _ z => ?_) (fun i x σ' H' hx z => ?_) fun σ' H' z => ?_
    · obtain ⟨y, _, eH, _⟩ := z
      exact SqL.of (eH b _ hB)
    · obtain ⟨y, rfl, eH, ws, hW, pW⟩ := z
      obtain ⟨d, hd, rd⟩ := pget' (pmo eH pB) hx
      have hm := List.mem_of_getElem? hd
      have hl : ls.length ≤ 1000 := hk.1
      have fs := filter_snoc (f := fun l => !ls.any fun o => (!decide (o = l)) && partB o l) ls i hd
      refine s_if (Evl.et_not (et_B ((ev_any (ev_lcm (R := Lot) (fun o => (!decide (o = d)) && partB o d) (ei_list (ev_var rfl (show Lots ls H' (.ref b) from ⟨b, us, rfl, eH b _ hB, pmo eH pB⟩))) (by omega) (fun _ => rfl) fun x2 o H2 e2 ho ro => ev_andV (ev_neLot (ev_var rfl ro) (ev_var rfl (mo e2 rd))) fun _ => ev_call (a := (o, d)) (hk.2 o ho) (ea_cons (ev_var rfl ro) (ea1 (ev_var rfl (mo e2 rd)))))).eqB (any_id _ _)))) (fun hb H2 e2 => ?_) fun hb H2 e2 => ?_
      · have hW2 := e2 a _ hW
        have wl := plen pW
        have w2 : ((ls.take i).filter fun l => !ls.any fun o => (!decide (o = l)) && partB o l).length ≤ ls.length := Nat.le_trans (List.length_filter_le _ _) (by rw [List.length_take]; exact Nat.min_le_right _ _)
        refine Evl.s_app hW2 (Evl.ev_var rfl) (Evl.ev_var rfl) (by omega) fun H3 e3 => ?_
        have hW3 := e3 a _ hW2
        refine ⟨_, rfl, ((eH.trans e2).trans e3).mut nA, _, upd_same, ?_⟩
        rw [fs, hb, if_pos rfl]
        refine papp (pmt ((ExT.of (e2.trans e3)).trans (ExT.lst hW3)) pW) (.cons ?_ .nil)
        exact MoT.mt ((ExT.of (e2.trans e3)).trans (ExT.lst hW3)) rd
      · refine ⟨_, rfl, eH.trans e2, ws, e2 a _ hW, ?_⟩
        rw [fs, hb, if_neg (by decide), List.append_nil]
        exact pmo e2 pW
    · obtain ⟨y, rfl, eH, ws, hW, pW⟩ := z
      rw [plen pB, List.take_of_length_le (Nat.le_refl _)] at pW
      exact s_ret (ev_tupleE (ev_sortLots (ls := leastL ls) (ev_var rfl ⟨a, ws, rfl, hW, pW⟩))) fun v4 H4 e4 r4 => q v4 H4 (eH.trans e4) r4
theorem ok_law_all_carry (T : Txt K mg) : FnOk P w K mg base CX0 3 T.law_all_carry.f T.law_all_carry.fd ["_law_folk", "_law_known"] (spP (fun a : Nat × List (List Int) => a.1 ≤ 6 ∧ a.2.length ≤ 1000 ∧ ∀ l ∈ a.2, l.length ≤ 1000) (fun a => [nI (a.1 : Nat), Tab a.2]) fun a => ExR Lots fun c => ∃ ls, AllLots a.1 ls ∧ c = ls.filter fun l => carB a.2 l) :=
  fn_p T.law_all_carry sc_law_all_carry (fun _ => rfl) fun cdv A outer s H E a vs hr hk p => by
    obtain ⟨v, u, rfl, r1, r2⟩ := ptwo p
    refine ⟨_, (pss_one (ps_ret (pe_lc (own := [("_law_lot", 2)]) rfl sc_law_all_carry.nd (piK (K := K) (r := fun K => iList K _) (pi_list (pe_cl T.law_lots (ok_law_lots T) hr (by decide) (by rfl) (pa_cons (pv 0) pa_nil)))) (blkOk_by (own := [("_law_lot", 2)]) (N := ["_law_folk", "_law_known", "_law_lot"]) (sc := defScope s_law_all_carry) (by decide +kernel)) (fun _ _ _ _ _ => pg_name (i := 2) sc_law_all_carry.nd rfl (Or.inl rfl)) (fun _ _ _ _ _ => (pts_one (pt_val (pe_cl T.law_carries (ok_law_carries T) hr (by decide) (by rfl) (pa_cons (pv 1) (pa_cons (pv 2) pa_nil)))))) (fun _ _ _ _ _ => (pv 2))))), fun Q q => ?_⟩
    refine s_ret (ev_lcE (P := AllLots a.1) (ei_listE (ev_call (a := a.1) hk.1 (ea1 (ev_var rfl r1)))) fun ls hls wi' H1 e1 ei => (ev_lcf (R := Lot) (fun l => carB a.2 l) ei (by have := hls.2; omega) (fun _ => rfl) (fun x d H2 e2 hd rd => et_B (ev_call (a := (a.2, d)) hk.2 (ea_cons (ev_var rfl (mo (e1.trans e2) r2)) (ea1 (ev_var rfl rd))))) fun x d H2 e2 hd rd _ => ev_var rfl rd).imp fun H2 v r => ⟨_, ⟨ls, hls, rfl⟩, r⟩) q
theorem ok_law_word (T : Txt K mg) : FnOk P w K mg base CX0 4 T.law_word.f T.law_word.fd ["_law_folk", "_law_known"] (spP (fun a : Nat × List (List Int) => a.1 ≤ 6 ∧ IsTab a.1 a.2) (fun a => [nI (a.1 : Nat), Tab a.2]) fun a => Is (.str (wordT a.2))) :=
  fn_p T.law_word sc_law_word (fun _ => rfl) fun cdv A outer s H E a vs hr hk p => by
    obtain ⟨v, u, rfl, r1, r2⟩ := ptwo p
    have hl : a.2.length ≤ 1000 := Nat.le_trans (tab_len hk.1 hk.2) (by decide)
    have hll := tab_lots hk.1 hk.2
    refine ⟨_, (pss_cons (ps_set (i := 2) sc_law_word.nd rfl (.inr rfl) (pe_cl T.law_all_carry (ok_law_all_carry T) hr (by decide) (by rfl) (pa_cons (pv 0) (pa_cons (pv 1) pa_nil))))
    (pss_cons (ps_for PassesOwn.never rfl (piK (K := K) (r := fun K => iList K _) (pi_list (pv 2))) (pg_name (i := 3) sc_law_word.nd rfl (.inr rfl))
      (pss_one (ps_if (pt_not (pt_val (pe_callB (crK (K := K) (r := rAll) (cr_all rfl)) (by rfl) T.n_all (by decide +kernel) (pa_cons (pe_lc (own := [("_law_other", 4)]) rfl sc_law_word.nd (piK (K := K) (r := fun K => iList K _) (pi_list (pv 2))) (blkOk_by (own := [("_law_other", 4)]) (N := ["_law_folk", "_law_known", "_law_carry", "_law_lot", "_law_other"]) (sc := defScope s_law_word) (by decide +kernel)) (fun _ _ _ _ _ => pg_name (i := 4) sc_law_word.nd rfl (Or.inl rfl)) (fun _ _ _ _ _ => pts_nil) (fun _ _ _ _ _ => (pe_cl T.law_meets (ok_law_meets T) hr (by decide) (by rfl) (pa_cons (pv 3) (pa_cons (pv 4) pa_nil))))) pa_nil)))) (pss_one (ps_ret pe_str)) pss_nil)))
    (pss_cons (ps_if (pt_val (pe_callB (crK (K := K) (r := rAll) (cr_all rfl)) (by rfl) T.n_all (by decide +kernel) (pa_cons (pe_lc (own := [("_law_lot", 3)]) rfl sc_law_word.nd (piK (K := K) (r := fun K => iList K _) (pi_list (pe_cl T.law_lots (ok_law_lots T) hr (by decide) (by rfl) (pa_cons (pv 0) pa_nil)))) (blkOk_by (own := [("_law_lot", 3)]) (N := ["_law_folk", "_law_known", "_law_carry", "_law_lot", "_law_other"]) (sc := defScope s_law_word) (by decide +kernel)) (fun _ _ _ _ _ => pg_name (i := 3) sc_law_word.nd rfl (Or.inl rfl)) (fun _ _ _ _ _ => pts_nil) (fun _ _ _ _ _ => (pe_or (pe_cmpR (opK (K := K) (r := rInD) (op_inD (units65 hr))) (pv 3) (pv 2) (by rfl)) (pe_one (pe_cmpR (opK (K := K) (r := rInD) (op_inD (units65 hr))) (pe_cl T.law_rest (ok_law_rest T) hr (by decide) (by rfl) (pa_cons (pv 0) (pa_cons (pv 3) pa_nil))) (pv 2) (by rfl)))))) pa_nil))) (pss_one (ps_ret pe_str)) pss_nil)
    (pss_one (ps_ret pe_str))))), fun Q q => ?_⟩
    refine q_set (ev_call (a := a) ⟨hk.1, hl, hll⟩ (ea_cons (ev_var rfl r1) (ea1 (ev_var rfl r2)))) fun v1 H1 e1 r3 => ?_
    obtain ⟨c, ⟨ls, hls, hc⟩, r3⟩ := r3
    have mc : ∀ x, x ∈ c ↔ IsLot a.1 x ∧ carB a.2 x = true := fun x => by rw [hc, List.mem_filter, hls.1]
    have lc : c.length ≤ 64 := by
      rw [hc]
      exact Nat.le_trans (List.length_filter_le _ _) hls.2
    have ll : ∀ x ∈ c, x.length ≤ 1000 := fun x hx => Nat.le_trans (lot_len ((mc x).mp hx).1 (by omega)) (by decide)
    refine q_for (ei_list (ev_var rfl r3)) fun H2 e2 => ⟨fun i σ' H' => ∃ y, σ' = [some v, some u, some v1, y, none] ∧ ∀ x ∈ c.take i, ∀ y ∈ c, meetsB x y = true, ⟨none, rfl, fun x hx => by cases hx⟩, fun _ _ _ _ _ z => z, fun i d x σ' H' hd e3 z rd => ?_, fun σ' H' e3 z => ?_⟩
    · obtain ⟨y, rfl, hm⟩ := z
      have hdc := List.mem_of_getElem? hd
      refine s_if (Evl.et_not (et_B ((ev_all (ev_lcm (R := Lot) (fun o => meetsB d o) (ei_list (ev_var rfl (mo (e2.trans e3) r3))) (by omega) (fun _ => rfl) fun x2 o H4 e4 ho ro => ev_call (a := (d, o)) (ll d hdc) (ea_cons (ev_var rfl (mo e4 rd)) (ea1 (ev_var rfl ro))))).eqB (all_id _ _)))) (fun hb H4 e4 => ?_) fun hb H4 e4 => ?_
      · have dj : Dj a.2 := by
          refine (dj_lots hk.2 hls.1).mpr ⟨d, hc ▸ hdc, ?_⟩
          rw [Bool.not_eq_true', List.all_eq_false] at hb
          obtain ⟨o, ho, h⟩ := hb
          refine ⟨o, hc ▸ ho, ?_⟩
          cases z : meetsB d o
          · rfl
          · exact absurd z h
        refine s_ret ev_c fun v5 H5 e5 r5 => q v5 H5 ((((e1.trans e2).trans e3).trans e4).trans e5) ?_
        unfold wordT
        rw [if_pos dj]
        exact r5
      · refine ⟨e3.trans e4, _, rfl, fun o ho => ?_⟩
        rw [List.take_add_one, hd] at ho
        rcases List.mem_append.mp ho with z | z
        · exact hm o z
        · rw [List.mem_singleton.mp z]
          rw [Bool.not_eq_false'] at hb
          exact fun y hy => List.all_eq_true.mp hb y hy
    · obtain ⟨y, rfl, hm⟩ := z
      rw [List.take_of_length_le (Nat.le_refl _)] at hm
      have e03 := (e1.trans e2).trans e3
      have nd : ¬ Dj a.2 := fun z => by
        obtain ⟨x, hx, y, hy, h⟩ := (dj_lots hk.2 hls.1).mp z
        rw [hm x (hc ▸ hx) y (hc ▸ hy)] at h
        cases h
      refine q_if (b := ouB a.2) (et_B (ev_allE (ev_lcE (P := AllLots a.1) (ei_listE (ev_call (a := a.1) hk.1 (ea1 (ev_var rfl (mo e03 r1))))) fun ls' hls' wi' H4 e4 ei => (ev_lcm (R := Lot) (S := nB) (fun l => decide (l ∈ c) || decide (restL a.1 l ∈ c)) ei (by have := hls'.2; omega) (fun _ => rfl) fun x d H5 e5 hd rd => ev_orV (ev_inLots (ev_var rfl rd) (ev_var rfl (mo ((e2.trans e3).trans (e4.trans e5)) r3))) fun _ => ev_inLots (ev_call (a := ((a.1 : Int), d)) ⟨by omega, by omega⟩ (ea_cons (ev_var rfl (mo (e03.trans (e4.trans e5)) r1)) (ea1 (ev_var rfl rd)))) (ev_var rfl (mo ((e2.trans e3).trans (e4.trans e5)) r3))).imp fun H5 v r => ⟨_, ?_, r⟩))) (fun hb H4 e4 => ?_) fun hb H4 e4 => ?_
      · show (ls'.map fun l => decide (l ∈ c) || decide (restL a.1 l ∈ c)).all id = ouB a.2
        rw [all_id, Bool.eq_iff_iff, ouB_iff, ou_lots hk.2 hls'.1, List.all_eq_true]
        constructor
        · intro h x hx
          have y := h x hx
          rw [Bool.or_eq_true, decide_eq_true_eq, decide_eq_true_eq] at y
          exact y.imp (fun q => ((mc _).mp q).2) fun q => ((mc _).mp q).2
        · intro h x hx
          rw [Bool.or_eq_true, decide_eq_true_eq, decide_eq_true_eq]
          exact (h x hx).imp (fun q => (mc _).mpr ⟨(hls'.1 x).mp hx, q⟩) fun q => (mc _).mpr ⟨rest_lot _ _, q⟩
      · have ho : Ou a.2 := ouB_iff.mp hb
        refine s_ret ev_c fun v5 H5 e5 r5 => q v5 H5 ((e03.trans e4).trans e5) ?_
        unfold wordT
        rw [if_neg nd, if_pos ho]
        exact r5
      · have ho : ¬ Ou a.2 := fun z => by
          rw [ouB_iff.mpr z] at hb
          cases hb
        refine s_ret ev_c fun v5 H5 e5 r5 => q v5 H5 ((e03.trans e4).trans e5) ?_
        unfold wordT
        rw [if_neg nd, if_neg ho]
        exact r5
end
end Rk
/-! the pool of draws -/
namespace Rk
open PySem PySem.Spec PyProof.Rows L2
open Evl (Ex EvT)
/-- a pool: its seed, its count, its list of cells -/
def PoolAt (H : Hp) (p c : Addr) : Prop := ∃ (s n : Int) (cs : List Int), p ≠ c ∧ H p = some (.lst [.int s, .int n, .ref c]) ∧ H c = some (.lst (cs.map V.int))
/-- all but a pool stays -/
def ExW (p c : Addr) (H H' : Hp) : Prop := ∀ a o, a ≠ p → a ≠ c → H a = some o → H' a = some o
section
variable {p c a : Addr} {H H' H1 H2 : Hp} {o : HO}
theorem ExW.refl (H : Hp) : ExW p c H H := fun _ _ _ _ h => h
theorem ExW.of (e : Ex H H') : ExW p c H H' := fun a o _ _ h => e a o h
theorem ExW.trans (a : ExW p c H H1) (b : ExW p c H1 H2) : ExW p c H H2 := fun x o h1 h2 h => b x o h1 h2 (a x o h1 h2 h)
theorem ExW.tex (a : ExW p c H H1) (b : Ex H1 H2) : ExW p c H H2 := a.trans (.of b)
theorem PoolAt.mo (h : PoolAt H p c) (e : Ex H H') : PoolAt H' p c := by
  obtain ⟨s, n, cs, h1, h2, h3⟩ := h
  exact ⟨s, n, cs, h1, e p _ h2, e c _ h3⟩
theorem PoolAt.notTup (h : PoolAt H p c) {xs : List V} (hx : H a = some (.tup xs)) : a ≠ p ∧ a ≠ c := by
  obtain ⟨s, n, cs, h1, h2, h3⟩ := h
  refine ⟨fun e => ?_, fun e => ?_⟩
  · subst e
    rw [h2] at hx
    cases hx
  · subst e
    rw [h3] at hx
    cases hx
theorem PoolAt.notNone (h : PoolAt H p c) (hx : H a = none) : a ≠ p ∧ a ≠ c := by
  obtain ⟨s, n, cs, h1, h2, h3⟩ := h
  refine ⟨fun e => ?_, fun e => ?_⟩
  · subst e
    rw [h2] at hx
    cases hx
  · subst e
    rw [h3] at hx
    cases hx
theorem ExW.t (h : PoolAt H p c) (e : ExW p c H H') : ExT H H' := fun a xs hx => e a _ (h.notTup hx).1 (h.notTup hx).2 hx
theorem PoolAt.upd (h : PoolAt H p c) (h1 : a ≠ p) (h2 : a ≠ c) : PoolAt (upd H a o) p c := by
  obtain ⟨s, n, cs, g1, g2, g3⟩ := h
  exact ⟨s, n, cs, g1, by rw [upd_ne h1.symm]; exact g2, by rw [upd_ne h2.symm]; exact g3⟩
theorem ExW.mut (e : ExW p c H H') (h : H a = none) : ExW p c H (upd H' a o) := fun x u h1 h2 hx => by
  rw [upd_ne (fun z => by subst z; rw [h] at hx; cases hx)]
  exact e x u h1 h2 hx
theorem ExW.pool (e : ExW p c H H') (h : a = p ∨ a = c) : ExW p c H (upd H' a o) := fun x u h1 h2 hx => by
  rw [upd_ne (fun z => by subst z; rcases h with h | h; exact h1 h; exact h2 h)]
  exact e x u h1 h2 hx
end
theorem ix0 (x : Int) (cs : List Int) : ixN ((x :: cs).map V.int).length 0 = some 0 := by
  unfold ixN
  rw [if_pos (by decide), if_pos (by rw [List.map_cons, List.length_cons]; omega)]
  rfl
theorem mw {R : RP} [m : MoT R] {p c : Addr} {H H' : Hp} {v : V} (h : PoolAt H p c) (e : ExW p c H H') (r : R H v) : R H' v := m.mt (e.t h) r
/-- the promise of a def that draws: its pool comes first -/
def spW {α : Type} (ok : α → Prop) (args : α → List RP) (res : α → RP) : Sp := fun vs H Q _ => ∃ a p c rest, vs = .ref p :: rest ∧ PoolAt H p c ∧ ok a ∧ Paired (fun v R => R H v) rest (args a) ∧ ∀ v H', ExW p c H H' → PoolAt H' p c → res a H' v → Q v H'
section
variable {α : Type} {K : PySem.W.Frag} {σ : L2.St} {H : Hp} {ta tb te : TE} {D : Ends} {tu tz : TS}
theorem w_call {ok : α → Prop} {args : α → List RP} {res : α → RP} {E : XK} {tr : TA} {a : α} {p c : Addr} {i : Nat} {Q : VK} (hp : PoolAt H p c) (hσ : σ[i]? = some (some (.ref p))) (hk : ok a) (h : EaX tr σ H (args a)) (q : ∀ v H', ExW p c H H' → PoolAt H' p c → res a H' v → Q v H') :
    tCall (spW ok args res) [] E (tCons (tVar i) tr) σ H Q := ⟨_, hσ, h H (Ex.refl H) _ fun vs H2 e2 pr => ⟨a, p, c, vs, by rw [List.append_nil], hp.mo e2, hk, pr, fun v H' e pp r => q v H' ((ExW.of e2).trans e) pp r⟩⟩
theorem ev_ixL {p : Addr} {xs : List V} {i : Int} {v : V} (ha : EvX ta σ H (Is (.ref p))) (hb : EvX tb σ H (nI i)) (hp : H p = some (.lst xs)) (hx : atI xs i = some v) : EvX (tOp (rIxL K) ta tb) σ H (Is v) := ev_op ha hb fun x y H3 e h1 h2 Q q => by
  cases h1
  cases h2
  exact ⟨p, xs, i, v, rfl, rfl, SqL.of (e p _ hp), hx, q _ H3 (Ex.refl _) rfl⟩
def rInt1 : List V → Hp → VK → Prop := fun xs H Q => (∃ i, xs = [.int i] ∧ Q (.int i) H) ∨ ∃ k, xs = [.bl k] ∧ Q (.int (if k then 1 else 0)) H
theorem ev_int1 {i : Int} (h : EvX te σ H (nI i)) : EvX (tCB rInt1 (tCons te tNil)) σ H (nI i) := ev_cb1 h fun v H2 _ s Q q => by
  cases s
  exact .inl ⟨_, rfl, q _ H2 (Ex.refl H2) rfl⟩
theorem q_sub {i j : Nat} {k : Int} {p : Addr} {xs : List V} {x : V} (h : EvX te σ H (Is x)) (hσ : σ[i]? = some (some (.ref p))) (hp : H p = some (.lst xs)) (hj : ixN xs.length k = some j) (kk : ∀ H1, Ex H H1 → tz D σ (upd H1 p (.lst (xs.set j x)))) :
    tSeq (tAsg te (gSub (tVar i) (tC (.int k)) rSetL)) tz D σ H := h H (Ex.refl H) _ fun v H1 e r => by
  cases r
  exact ⟨_, hσ, p, xs, k, j, rfl, rfl, e p _ hp, hj, kk H1 e⟩
end
section
variable {P : Program} {w : World} {K : PySem.W.Frag} {mg : Str → Option Value} {base : Heap} {x : Str} {st : Stmt} {ps : List Str} {k : Nat}
theorem fn_w {α : Type} {ok : α → Prop} {args : α → List RP} {res : α → RP} {N : List Str} (G : FnAt K mg x st ps) (S : FnScope N ps (defScope st)) (len : ∀ a, (args a).length + 1 = ps.length)
    (h : ∀ (cdv : Value) (A : Around) (outer : List Env) (s : Shared) (H : Hp) (E : XK) (a : α) (p c : Addr) (rest : List V), Room k (A.deeper (envOfC x (defScope st) s.heap.objs.size G.f cdv)) → PoolAt H p c → ok a → Paired (fun v R => R H v) rest (args a) →
      ∃ t, PSs (cxOf CX0 P w K mg base N x (defScope st) G.f cdv A outer s H E).nox (defBody st) t ∧ ∀ Q : VK, (∀ v H', ExW p c H H' → PoolAt H' p c → res a H' v → Q v H') → t { nx := fun _ H' => Q .non H', rt := Q } (start N (.ref p :: rest)) H) :
    FnOk P w K mg base CX0 (k + 1) G.f G.fd ps (spW ok args res) :=
  fn_ok G S (fun vs H Q E ⟨a, p, c, rest, e, _, _, pr, _⟩ => by
    rw [e, List.length_cons, ppl pr]
    exact len a) fun cdv A outer s H vs Q E hr ⟨a, p, c, rest, e, hp, hk, pr, q⟩ => by
    subst e
    obtain ⟨t, h1, h2⟩ := h cdv A outer s H E a p c rest hr hp hk pr
    exact ⟨t, h1, h2 Q q⟩
theorem ok_law_draw (T : Txt K mg) : FnOk P w K mg base CX0 1 T.law_draw.f T.law_draw.fd ["_law_pool_here", "_law_many"] (spW (fun m : Int => 0 < m ∧ m < 1073741824) (fun m => [nI m]) fun m => ExR nI fun r => 0 ≤ r ∧ r < m) :=
  fn_w T.law_draw sc_law_draw (fun _ => rfl) fun cdv A outer s H E m p c rest hr hp hk pr => by
    obtain ⟨v, rfl, r⟩ := pone pr
    obtain ⟨s0, n0, cs, hpc, h1, h2⟩ := hp
    refine ⟨_, (pss_cons (ps_asg (pe_op op_add (pe_ix (ixK (K := K) (r := rIxL) ix_list) (pv 0) pe_int (fun _ _ => rfl)) pe_int) (pg_sub (pv 0) pe_int set_list))
    (pss_cons (ps_set (i := 2) sc_law_draw.nd rfl (.inl rfl) (pe_ix (ixK (K := K) (r := rIxL) ix_list) (pv 0) pe_int (fun _ _ => rfl)))
    (pss_cons (ps_if (pt_cmpR op_gt (pe_callB (crK (K := K) (r := rLenX) cr_len) (by rfl) T.n_len (by decide +kernel) (pa_cons (pv 2) pa_nil)) pe_int (nomark _)) (pss_cons (ps_set (i := 3) sc_law_draw.nd rfl (.inl rfl) (pe_op op_mod (pe_callTy call_int1 (by rfl) T.n_int (by decide +kernel) (pa_cons (pe_ix (ixK (K := K) (r := rIxL) ix_list) (pv 2) pe_int (fun _ _ => rfl)) pa_nil)) (pv 1)))
    (pss_cons (ps_asg (pe_op op_fdiv (pe_callTy call_int1 (by rfl) T.n_int (by decide +kernel) (pa_cons (pe_ix (ixK (K := K) (r := rIxL) ix_list) (pv 2) pe_int (fun _ _ => rfl)) pa_nil)) (pv 1)) (pg_sub (pv 2) pe_int set_list))
    (pss_cons (ps_if (pt_cmpR op_eq (pe_ix (ixK (K := K) (r := rIxL) ix_list) (pv 2) pe_int (fun _ _ => rfl)) pe_int (nomark _)) (pss_one (ps_expr (pe_bm PySem.F.plainAttrs_list PySem.F.slot_list_pop PySem.F.type_list_pop mt_popAt (pv 2) (pa_cons pe_int pa_nil)))) pss_nil)
    (pss_one (ps_ret (pv 3)))))) pss_nil)
    (pss_cons (ps_set (i := 4) sc_law_draw.nd rfl (.inl rfl) (pe_op op_mod (pe_callTy call_int1 (by rfl) T.n_int (by decide +kernel) (pa_cons (pe_op op_mul (pe_op op_add (pe_ix (ixK (K := K) (r := rIxL) ix_list) (pv 0) pe_int (fun _ _ => rfl)) (pe_op op_mul pe_int (pe_ix (ixK (K := K) (r := rIxL) ix_list) (pv 0) pe_int (fun _ _ => rfl)))) pe_int) pa_nil)) pe_int))
    (pss_cons (ps_set (i := 4) sc_law_draw.nd rfl (.inl rfl) (pe_op op_mod (pe_callTy call_int1 (by rfl) T.n_int (by decide +kernel) (pa_cons (pe_op op_mul (pv 4) (pe_op op_add (pe_op op_fdiv (pv 4) pe_int) pe_int)) pa_nil)) pe_int))
    (pss_cons (ps_set (i := 4) sc_law_draw.nd rfl (.inl rfl) (pe_op op_mod (pe_callTy call_int1 (by rfl) T.n_int (by decide +kernel) (pa_cons (pe_op op_mul (pv 4) (pe_op op_add (pe_op op_fdiv (pv 4) pe_int) pe_int)) pa_nil)) pe_int))
    (pss_one (ps_ret (pe_op op_mod (pe_callTy call_int1 (by rfl) T.n_int (by decide +kernel) (pa_cons (pe_op op_fdiv (pv 4) pe_int) pa_nil)) (pv 1)))))))))), fun Q q => ?_⟩
    have mpos := hk.1
    have fin : ∀ (i : Int) (H' : Hp) (s n : Int) (cs : List Int), ExW p c H H' → H' p = some (.lst [.int s, .int n, .ref c]) → H' c = some (.lst (cs.map V.int)) → ∀ v, nI (i % m) H' v → Q v H' := fun i H' s n cs e g1 g2 v hv =>
      q v H' e ⟨s, n, cs, hpc, g1, g2⟩ ⟨_, ⟨Int.emod_nonneg _ (by omega), Int.emod_lt_of_pos _ mpos⟩, hv⟩
    refine q_sub (j := 1) (ev_i0 (z := V.int (n0 + 1)) (ev_ixL (v := .int n0) (ev_var (R := Is (.ref p)) rfl rfl) ev_c h1 rfl) ev_c rfl) rfl h1 rfl fun H1 e1 => ?_
    have e01 : ExW p c H (upd H1 p (.lst [.int s0, .int (n0 + 1), .ref c])) := (ExW.of e1).pool (.inl rfl)
    have h1' : (upd H1 p (.lst [.int s0, .int (n0 + 1), .ref c])) p = some (.lst [.int s0, .int (n0 + 1), .ref c]) := upd_same
    have h2' : (upd H1 p (.lst [.int s0, .int (n0 + 1), .ref c])) c = some (.lst (cs.map V.int)) := by
      rw [upd_ne hpc.symm]
      exact e1 c _ h2
    have r' : nI m (upd H1 p (.lst [.int s0, .int (n0 + 1), .ref c])) v := r
    show tSeq _ _ _ _ (upd H1 p (.lst [.int s0, .int (n0 + 1), .ref c]))
    generalize upd H1 p (.lst [.int s0, .int (n0 + 1), .ref c]) = H2 at e01 h1' h2' r' ⊢
    refine q_set (ev_ixL (v := .ref c) (ev_var (R := Is (.ref p)) rfl rfl) ev_c h1' rfl) fun v3 H3 e3 r3 => ?_
    cases r3
    have g1 := e3 p _ h1'
    have g2 := e3 c _ h2'
    refine q_if (b := decide (0 < cs.length)) (et_test (ev_i0 (ev_lenL (T := nI) (ds := cs) (ev_var rfl (raw_ints g2))) ev_c (by congr 1; exact decide_eq_decide.mpr (by omega)))) (fun hb H4 e4 => ?_) fun hb H4 e4 => ?_
    · obtain ⟨x, cs, rfl⟩ : ∃ x cs', cs = x :: cs' := by
        cases cs with
        | nil => cases hb
        | cons x cs => exact ⟨x, cs, rfl⟩
      have g1 := e4 p _ g1
      have g2 := e4 c _ g2
      refine q_set (ev_i (z := V.int (x % m)) (ev_int1 (ev_ixL (v := .int x) (ev_var (R := Is (.ref c)) rfl rfl) ev_c g2 (at_of (j := 0) rfl rfl))) (ev_var rfl (mo (e3.trans e4) r')) mpos rfl) fun v5 H5 e5 r5 => ?_
      have g1 := e5 p _ g1
      have g2 := e5 c _ g2
      refine q_sub (j := 0) (ev_i (z := V.int (x / m)) (ev_int1 (ev_ixL (v := .int x) (ev_var (R := Is (.ref c)) rfl rfl) ev_c g2 (at_of (j := 0) rfl rfl))) (ev_var rfl (mo ((e3.trans e4).trans e5) r')) hk rfl) rfl g2 (ix0 _ _) fun H6 e6 => ?_
      have e06 : ExW p c H (upd H6 c (.lst ((x / m :: cs).map V.int))) := ((((e01.tex e3).tex e4).tex e5).tex e6).pool (.inr rfl)
      have k1 : (upd H6 c (.lst ((x / m :: cs).map V.int))) p = some (.lst [.int s0, .int (n0 + 1), .ref c]) := by
        rw [upd_ne hpc]
        exact e6 p _ g1
      have k2 : (upd H6 c (.lst ((x / m :: cs).map V.int))) c = some (.lst ((x / m :: cs).map V.int)) := upd_same
      have k3 : nI (x % m) (upd H6 c (.lst ((x / m :: cs).map V.int))) v5 := r5
      show tSeq _ _ _ _ (upd H6 c (.lst ((x / m :: cs).map V.int)))
      generalize upd H6 c (.lst ((x / m :: cs).map V.int)) = H7 at e06 k1 k2 k3 ⊢
      refine q_if (et_test (ev_eq (ev_ixL (v := .int (x / m)) (ev_var (R := Is (.ref c)) rfl rfl) ev_c k2 (at_of (j := 0) rfl rfl)) ev_c rfl rfl)) (fun hb H8 e8 => ?_) fun hb H8 e8 => ?_
      · refine ⟨_, rfl, Or.inl ⟨rfl, _, SqL.of (e8 c _ k2)⟩, c, _, 0, 0, .int (x / m), rfl, rfl, e8 c _ k2, by decide, by decide, by show seqIndex? 0 (((x / m :: cs).map V.int).length) = some 0; exact (ixN_seq (ix0 _ _)).1, rfl, ?_⟩
        have j1 : (upd H8 c (.lst (cs.map V.int))) p = some (.lst [.int s0, .int (n0 + 1), .ref c]) := by
          rw [upd_ne hpc]
          exact e8 p _ k1
        exact s_ret (R := nI (x % m)) (ev_var rfl (show nI (x % m) (upd H8 c (.lst (cs.map V.int))) v5 from k3)) fun v9 H9 e9 r9 => fin x H9 s0 (n0 + 1) cs (((e06.tex e8).pool (.inr rfl)).tex e9) (e9 p _ j1) (e9 c _ upd_same) v9 r9
      · exact s_ret (R := nI (x % m)) (ev_var rfl k3) fun v9 H9 e9 r9 => fin x H9 s0 (n0 + 1) _ ((e06.tex e8).tex e9) (e9 p _ (e8 p _ k1)) (e9 c _ (e8 c _ k2)) v9 r9
    · have g1 := e4 p _ g1
      have g2 := e4 c _ g2
      have bd : ∀ (i j : Int), 0 < j → j ≤ 2147483647 → CMul (i % j) 1 ∧ 0 ≤ i % j ∧ i % j < 2147483647 := fun i j h0 hj => by
        have a := Int.emod_nonneg i (b := j) (by omega)
        have b := Int.emod_lt_of_pos i h0
        exact ⟨.inl ⟨by omega, by omega⟩, a, by omega⟩
      refine q_set (ev_i (z := V.int ((s0 + 7919 * (n0 + 1)) * 48271 % 2147483647)) (ev_int1 (ev_i (ev_i0 (ev_ixL (v := .int s0) (ev_var (R := Is (.ref p)) rfl rfl) ev_c g1 rfl) (ev_i ev_c (ev_ixL (v := .int (n0 + 1)) (ev_var (R := Is (.ref p)) rfl rfl) ev_c g1 rfl) (.inl ⟨by decide, by decide⟩) rfl) rfl) ev_c (.inr ⟨by decide, by decide⟩) rfl)) ev_c (by decide) rfl) fun v5 H5 e5 r5 => ?_
      have b5 := bd ((s0 + 7919 * (n0 + 1)) * 48271) 2147483647 (by decide) (by decide)
      generalize (s0 + 7919 * (n0 + 1)) * 48271 % 2147483647 = y at r5 b5
      refine q_set (ev_i (z := V.int (y * (y / 1009 + 69621) % 2147483647)) (ev_int1 (ev_i (ev_var rfl r5) (ev_i0 (ev_i (ev_var rfl r5) ev_c ⟨by decide, by decide⟩ rfl) ev_c rfl) (.inl ⟨by omega, by omega⟩) rfl)) ev_c (by decide) rfl) fun v6 H6 e6 r6 => ?_
      have b6 := bd (y * (y / 1009 + 69621)) 2147483647 (by decide) (by decide)
      generalize y * (y / 1009 + 69621) % 2147483647 = z at r6 b6
      refine q_set (ev_i (z := V.int (z * (z / 2003 + 40692) % 2147483399)) (ev_int1 (ev_i (ev_var rfl r6) (ev_i0 (ev_i (ev_var rfl r6) ev_c ⟨by decide, by decide⟩ rfl) ev_c rfl) (.inl ⟨by omega, by omega⟩) rfl)) ev_c (by decide) rfl) fun v7 H7 e7 r7 => ?_
      have e47 := (e5.trans e6).trans e7
      refine s_ret (ev_i (z := V.int ((z * (z / 2003 + 40692) % 2147483399) / 16 % m)) (ev_int1 (ev_i (ev_var rfl r7) ev_c ⟨by decide, by decide⟩ rfl)) (ev_var rfl (mo ((e3.trans e4).trans e47) r')) mpos rfl) fun v8 H8 e8 r8 => fin _ H8 s0 (n0 + 1) cs ((((e01.tex e3).tex e4).tex e47).tex e8) (e8 p _ (e47 p _ g1)) (e8 c _ (e47 c _ g2)) v8 r8
end
end Rk
/-! what is drawn -/
namespace Rk
open PySem PySem.Spec PyProof.Rows L2
open Evl (Ex EvT)
theorem pperm {α : Type} {F : V → α → Prop} {xs xs' : List V} (h : xs'.Perm xs) : ∀ {ys : List α}, Paired F xs ys → ∃ ys', ys'.Perm ys ∧ Paired F xs' ys' := by
  induction h with
  | nil => exact fun p => ⟨_, .refl _, p⟩
  | cons x _ ih =>
    intro ys p
    cases p with
    | cons r t =>
      obtain ⟨ys', h1, h2⟩ := ih t
      exact ⟨_, h1.cons _, .cons r h2⟩
  | swap x y l =>
    intro ys p
    cases p with
    | cons r t =>
      cases t with
      | cons r' t => exact ⟨_, .swap _ _ _, .cons r' (.cons r t)⟩
  | trans _ _ ih1 ih2 =>
    intro ys p
    obtain ⟨y1, h1, p1⟩ := ih2 p
    obtain ⟨y2, h2, p2⟩ := ih1 p1
    exact ⟨y2, h2.trans h1, p2⟩
theorem nd_len {α : Type} [DecidableEq α] : ∀ (l m : List α), l.Nodup → (∀ x ∈ l, x ∈ m) → l.length ≤ m.length
  | [], m, _, _ => Nat.zero_le _
  | x :: l, m, nd, h => by
    obtain ⟨h1, h2⟩ := List.nodup_cons.mp nd
    have ih := nd_len l (m.erase x) h2 fun y hy => (List.mem_erase_of_ne (fun e => by
      subst e
      exact h1 hy)).mpr (h y (List.mem_cons_of_mem _ hy))
    have hx := h x List.mem_cons_self
    rw [List.length_erase_of_mem hx] at ih
    have := List.length_pos_of_mem hx
    rw [List.length_cons]
    omega
theorem erase_perm {α : Type} : ∀ (l : List α) (i : Nat) (h : i < l.length), (l[i] :: l.eraseIdx i).Perm l
  | x :: l, 0, _ => .refl _
  | x :: l, i + 1, h => by
    have ih := erase_perm l i (by rw [List.length_cons] at h; omega)
    exact (List.Perm.swap _ _ _).trans (ih.cons x)
theorem ks_of {H : Hp} : ∀ {vs : List V} {ls : List (List Int)}, Paired (fun v l => Lot l H v) vs ls → ∃ ks : List (Addr × List Int), vs = ks.map (fun p => V.ref p.1) ∧ ls = ks.map (·.2) ∧ ∀ p ∈ ks, H p.1 = some (.tup (p.2.map V.int))
  | _, _, .nil => ⟨[], rfl, rfl, fun p hp => by cases hp⟩
  | _, _, .cons (b := l) r t => by
    obtain ⟨a, rfl, e⟩ := lot_raw r
    obtain ⟨ks, rfl, rfl, h⟩ := ks_of t
    refine ⟨(a, l) :: ks, rfl, rfl, fun p hp => ?_⟩
    rcases List.mem_cons.mp hp with rfl | hp
    · exact e
    · exact h p hp
section
variable {α β : Type} {P : Program} {w : World} {K : PySem.W.Frag} {σ : L2.St} {H : Hp} {ta tb te : TE} {t : TT} {D : Ends} {tu tz : TS}
theorem ev_k {R : RP} [Mo R] {v : V} (r : R H v) : EvX (fun _ H Q => Q v H) σ H R := fun H1 e Q q => q v H1 (Ex.refl H1) (mo e r)
theorem ev_sortSet {ls : List (List Int)} (h : EvX te σ H (Lots ls)) (hl : ls.length < 64) : EvX (tCB (rSortSet P w) (tCons (tCB (rSetOfT K P w) (tCons te tNil)) tNil)) σ H (ExR Lots fun ls' => (∀ l, l ∈ ls' ↔ l ∈ ls) ∧ ls'.Nodup) := fun H1 e Q q => h H1 e _ fun v H2 e2 r => by
  obtain ⟨a, vs, rfl, ha, pa⟩ := r
  obtain ⟨ks, rfl, rfl, hk⟩ := ks_of pa
  refine ⟨a, ks, rfl, SqL.of ha, fun p hp => SqT.of (hk p hp), by rw [List.length_map] at hl; exact hl, fun b L hb hL hc => ?_⟩
  refine ⟨b, L, rfl, upd_same, fun p hp => ?_, fun ys ls' d pm nd _ pp hd => q _ _ (e2.trans ((Ex.new hb).trans (Ex.new hd))) ⟨ls', ⟨fun l => ?_, nd⟩, d, ys, rfl, upd_same, pmo (Ex.new hd) pp⟩⟩
  · exact Ex.new hb _ _ (hk p (hL p hp))
  · rw [pm.mem_iff]
    constructor
    · intro hm
      obtain ⟨p, hp, rfl⟩ := List.mem_map.mp hm
      exact List.mem_map.mpr ⟨p, hL p hp, rfl⟩
    · intro hm
      obtain ⟨p, hp, rfl⟩ := List.mem_map.mp hm
      exact hc p hp
/-- a list from a list, unknown to H -/
theorem ev_listLF {R : α → RP} [∀ d, Mo (R d)] {ds : List α} (h : EvX te σ H (Lst R ds)) : EvX (tCB (rLstX K) (tCons te tNil)) σ H (FrL H R ds) := fun H1 e1 _ q => h H1 e1 _ fun v H2 e2 s => by
  obtain ⟨a, vs, rfl, e, p⟩ := s
  exact ⟨a, vs, rfl, .inl (SqL.of e), fun l hl => q _ _ (e2.trans (Ex.new hl)) ⟨l, vs, rfl, upd_same, pmo (Ex.new hl) p, Evl.fresh_back (e1.trans e2) hl⟩⟩
theorem w_nil {Q : List V → Hp → Prop} (h : Q [] H) : tNil σ H Q := h
theorem w_tup {R : α → RP} [∀ d, Mo (R d)] {ds : List α} {v : V} {Q : VK} (r : Lst R ds H v) (q : ∀ u H', Ex H H' → Tup R ds H' u → Q u H') : rTupX K [v] H Q := (ev_tupleL (K := K) (T := R) (ds := ds) (ev_k (σ := []) r)).go q
theorem w_callE {sp : Sp} {E : XK} {i : Nat} {x : V} {R : RP} {Q : VK} (hσ : σ[i]? = some (some x)) (h : EvX te σ H R) (k : ∀ v H1, Ex H H1 → R H1 v → tCall sp [] E (tCons (tVar i) (tCons (fun _ H Q => Q v H) tNil)) σ H1 Q) :
    tCall sp [] E (tCons (tVar i) (tCons te tNil)) σ H Q := ⟨_, hσ, h.go fun v H1 e r => by
  obtain ⟨v', h1, h2⟩ := k v H1 e r
  cases hσ.symm.trans h1
  exact h2⟩
/-- a comprehension over a range whose items are drawn -/
theorem w_lc {p c : Addr} {n m : Nat} {vs : List Nat} {H1 : Hp} {S : β → RP} [∀ d, MoT (S d)] {Q : Addr → Hp → Prop} (hp : PoolAt H1 p c) (hm : m ≤ 1000) (hw : ∀ x, wipe ((wipe σ vs).set n (some x)) vs = wipe σ vs) (I : Nat → List β → Prop) (i0 : I 0 []) (hl : ∀ i ds, i ≤ m → I i ds → ds.length ≤ i)
    (ht : ∀ (i : Nat) H', i < m → ExW p c H1 H' → PoolAt H' p c → ∀ Q : Bool → Hp → Prop, (∀ b H3, ExW p c H' H3 → PoolAt H3 p c → Q b H3) → t ((wipe σ vs).set n (some (.int (i : Int)))) H' Q)
    (he : ∀ (i : Nat) H', i < m → ExW p c H1 H' → PoolAt H' p c → ∀ Q : VK, (∀ d v H3, ExW p c H' H3 → PoolAt H3 p c → S d H3 v → (∀ ds, I i ds → I (i + 1) (ds ++ [d])) → Q v H3) → te ((wipe σ vs).set n (some (.int (i : Int)))) H' Q)
    (hno : ∀ i ds, I i ds → I (i + 1) ds) (q : ∀ D ds H2, ExW p c H1 H2 → PoolAt H2 p c → I m ds → H1 D = none → Lst S ds H2 (.ref D) → Q D H2) :
    ∀ D, H1 D = none → ∃ W : Nat → Nat → Hp → Prop, (∃ m, W 0 m (upd H1 D (.lst []))) ∧ ∀ i k H, W i k H →
      ((Itr 0 m).stop i H ∧ Q D H) ∨ ((Itr 0 m).go i H ∧ ∃ Nx : Hp → Prop, (∀ H', Nx H' → ∃ m', m' < k ∧ W (i + 1) m' H') ∧ ∀ x H', (Itr 0 m).yld i H x H' → gName n x (wipe σ vs) H' fun σ2 H2 => wipe σ2 vs = wipe σ vs ∧ t σ2 H2 fun b H3 =>
        if b = true then te σ2 H3 fun y H4 => ∃ acc, H4 D = some (.lst acc) ∧ acc.length < sizeLine ∧ Nx (upd H4 D (.lst (acc ++ [y]))) else Nx H3) := fun D hD => by
  obtain ⟨d1, d2⟩ := hp.notNone hD
  refine ⟨fun i k H' => k = m - i ∧ i ≤ m ∧ ExW p c H1 H' ∧ PoolAt H' p c ∧ ∃ acc ds, H' D = some (.lst acc) ∧ Paired (fun v d => S d H' v) acc ds ∧ I i ds, ⟨m, by omega, Nat.zero_le _, (ExW.refl _).mut hD, hp.upd d1 d2, [], [], upd_same, .nil, i0⟩, ?_⟩
  rintro i k H' ⟨rfl, hi, eH, pp, acc, ds, hacc, pacc, hI⟩
  by_cases hlt : i < m
  · refine .inr ⟨hlt, fun H'' => ExW p c H1 H'' ∧ PoolAt H'' p c ∧ ∃ acc ds, H'' D = some (.lst acc) ∧ Paired (fun v d => S d H'' v) acc ds ∧ I (i + 1) ds, fun H'' z => ⟨m - (i + 1), by omega, rfl, hlt, z⟩, fun x H4 y => ?_⟩
    obtain ⟨rfl, rfl⟩ := y
    rw [Int.zero_add]
    refine ⟨hw _, ht i _ hlt eH pp _ fun b H5 e5 p5 => ?_⟩
    cases b with
    | false =>
      rw [if_neg (by decide)]
      exact ⟨eH.trans e5, p5, acc, ds, e5 D _ d1 d2 hacc, pmt (e5.t pp) pacc, hno i ds hI⟩
    | true =>
      rw [if_pos rfl]
      refine he i _ hlt (eH.trans e5) p5 _ fun d v H6 e6 p6 r6 st => ?_
      have hD6 := e6 D _ d1 d2 (e5 D _ d1 d2 hacc)
      have len := plen pacc
      have := hl i ds hi hI
      have tt := ((e5.t pp).trans (e6.t p5)).trans (ExT.lst (ys := acc ++ [v]) hD6)
      exact ⟨acc, hD6, Evl.sz_lt (by omega), ((eH.trans e5).trans e6).mut hD, p6.upd d1 d2, _, _, upd_same, papp (pmt tt pacc) (.cons (MoT.mt (ExT.lst hD6) r6) .nil), st ds hI⟩
  · have e : i = m := by omega
    subst e
    exact .inl ⟨Nat.le_refl _, q D ds H' eH pp hI hD ⟨D, acc, rfl, hacc, pacc⟩⟩
end
section
variable {P : Program} {w : World} {K : PySem.W.Frag} {mg : Str → Option Value} {base : Heap}
theorem prefl : ∀ vs : List V, Paired (fun v d : V => v = d) vs vs
  | [] => .nil
  | _ :: vs => .cons rfl (prefl vs)
theorem pid : ∀ {vs ws : List V}, Paired (fun v d : V => v = d) vs ws → vs = ws
  | _, _, .nil => rfl
  | _, _, .cons r t => by rw [r, pid t]
theorem ok_law_mixed (T : Txt K mg) : FnOk P w K mg base CX0 2 T.law_mixed.f T.law_mixed.fd ["_law_pool_here", "_law_things"] (spW (fun vs : List V => vs.length ≤ 1000) (fun vs => [Lst Is vs]) fun vs => ExR (Lst Is) fun vs' => vs'.Perm vs) :=
  fn_w T.law_mixed sc_law_mixed (fun _ => rfl) fun cdv A outer s H E us p c rest hr hp hk pr => by
    obtain ⟨v, rfl, r⟩ := pone pr
    refine ⟨_, (pss_cons (ps_set (i := 2) sc_law_mixed.nd rfl (.inl rfl) (pe_callTy (crK (K := K) (r := rLstX) cr_list) (by rfl) T.n_list (by decide +kernel) (pa_cons (pv 1) pa_nil)))
    (pss_cons (ps_set (i := 3) sc_law_mixed.nd rfl (.inl rfl) (pe_lst pa_nil))
    (pss_cons (ps_for PassesOwn.never rfl (pi_range1 (by rfl) T.n_range (pa_cons (pe_callB (crK (K := K) (r := rLenX) cr_len) (by rfl) T.n_len (by decide +kernel) (pa_cons (pv 1) pa_nil)) pa_nil)) (pg_name (i := 4) sc_law_mixed.nd rfl (.inl rfl))
      (pss_one (ps_expr (pe_bm PySem.F.plainAttrs_list PySem.F.slot_list_append PySem.F.type_list_append mt_append (pv 3) (pa_cons (pe_bm PySem.F.plainAttrs_list PySem.F.slot_list_pop PySem.F.type_list_pop mt_popAt (pv 2) (pa_cons (pe_cl T.law_draw (ok_law_draw T) hr (by decide) (by rfl) (pa_cons (pv 0) (pa_cons (pe_callB (crK (K := K) (r := rLenX) cr_len) (by rfl) T.n_len (by decide +kernel) (pa_cons (pv 2) pa_nil)) pa_nil))) pa_nil)) pa_nil)))))
    (pss_one (ps_ret (pv 3)))))), fun Q q => ?_⟩
    refine q_set (ev_listLF (R := Is) (ev_var rfl r)) fun v1 H1 e1 r1 => ?_
    obtain ⟨a, xs, rfl, hA, pA, nA⟩ := r1
    cases pid pA
    refine q_set (ev_lst0F (R := Is)) fun v2 H2 e2 r2 => ?_
    obtain ⟨b, ys, rfl, hB, pB, nB⟩ := r2
    cases pB
    have hab : a ≠ b := fun e => by
      subst e
      rw [hA] at nB
      cases nB
    have nB0 := Evl.fresh_back e1 nB
    obtain ⟨a1, a2⟩ := hp.notNone nA
    obtain ⟨b1, b2⟩ := hp.notNone nB0
    refine Evl.q_forR1 (n := (us.length : Int)) (ea_int (ev_lenL (T := Is) (ev_var rfl (mo (e1.trans e2) r)))) (by omega) (fun i σ' H' => ∃ y xs ys, σ' = [some (.ref p), some v, some (.ref a), some (.ref b), y] ∧ ExW p c H H' ∧ PoolAt H' p c ∧ H' a = some (.lst xs) ∧ H' b = some (.lst ys) ∧ (ys ++ xs).Perm us ∧ ys.length = i) (fun H3 e3 => ?_) (fun i σ' H' hi z => ?_) fun σ' H' z => ?_
    · exact ⟨none, us, [], rfl, .of ((e1.trans e2).trans e3), hp.mo ((e1.trans e2).trans e3), e3 a _ (e2 a _ hA), e3 b _ hB, .refl _, rfl⟩
    · obtain ⟨y, xs, ys, rfl, eW, pp, hA, hB, pm, hl⟩ := z
      have len := pm.length_eq
      rw [List.length_append] at len
      have hx : 0 < xs.length := by omega
      refine ⟨_, rfl, .inl ⟨rfl, _, SqL.of hB⟩, _, rfl, .inl ⟨rfl, _, SqL.of hA⟩, ?_⟩
      refine w_call (a := (xs.length : Int)) pp rfl ⟨by omega, by omega⟩ (ea1 (ev_lenL (T := Is) (ds := xs) (ev_var rfl ⟨a, xs, rfl, hA, prefl xs⟩))) fun v4 H4 e4 p4 r4 => ?_
      obtain ⟨r, ⟨r0, r1⟩, r4⟩ := r4
      cases r4
      have hA4 := e4 a _ a1 a2 hA
      have hB4 := e4 b _ b1 b2 hB
      have hr : r.toNat < xs.length := by omega
      refine ⟨a, xs, r, r.toNat, xs[r.toNat], rfl, rfl, hA4, by omega, by omega, (ixN_seq ?_).1, List.getElem?_eq_getElem hr, b, ys, _, rfl, rfl, ?_, Evl.sz_lt (by omega), ?_⟩
      · unfold ixN
        rw [if_pos r0, if_pos r1]
      · rw [upd_ne hab.symm]
        exact hB4
      · refine ⟨_, _, _, rfl, ((eW.trans e4).mut nA).mut nB0, (p4.upd a1 a2).upd b1 b2, by rw [upd_ne hab]; exact upd_same, upd_same, ?_, by rw [List.length_append, hl]; rfl⟩
        rw [List.append_assoc]
        exact (List.Perm.append_left ys (erase_perm xs _ hr)).trans pm
    · obtain ⟨y, xs, ys, rfl, eW, pp, hA, hB, pm, hl⟩ := z
      have len := pm.length_eq
      rw [List.length_append] at len
      have hx : xs = [] := List.length_eq_zero_iff.mp (by omega)
      subst hx
      rw [List.append_nil] at pm
      exact s_ret (R := Lst Is ys) (ev_var rfl ⟨b, ys, rfl, hB, prefl ys⟩) fun v5 H5 e5 r5 => q v5 H5 (eW.tex e5) (pp.mo e5) ⟨ys, pm, r5⟩
theorem ok_law_drawn_lot (T : Txt K mg) : FnOk P w K mg base CX0 2 T.law_drawn_lot.f T.law_drawn_lot.fd ["_law_pool_here", "_law_folk"] (spW (fun n : Nat => 1 ≤ n ∧ n ≤ 6) (fun n => [nI (n : Nat)]) fun n => ExR Lot (IsLot n)) :=
  fn_w T.law_drawn_lot sc_law_drawn_lot (fun _ => rfl) fun cdv A outer s H E n p c rest hr hp hk pr => by
    obtain ⟨v, rfl, r⟩ := pone pr
    cases r
    refine ⟨_, (pss_cons (ps_set (i := 2) sc_law_drawn_lot.nd rfl (.inl rfl) (pe_callTy (crK (K := K) (r := rTupX) cr_tuple) (by rfl) T.n_tuple (by decide +kernel) (pa_cons (pe_lc (own := [("_law_person", 3)]) rfl sc_law_drawn_lot.nd (pi_range1 (by rfl) T.n_range (pa_cons (pv 1) pa_nil)) (blkOk_by (own := [("_law_person", 3)]) (N := ["_law_pool_here", "_law_folk", "_law_lot", "_law_person"]) (sc := defScope s_law_drawn_lot) (by decide +kernel)) (fun _ _ _ _ _ => pg_name (i := 3) sc_law_drawn_lot.nd rfl (Or.inl rfl)) (fun _ _ _ _ _ => (pts_one (pt_cmpR op_eq (pe_cl T.law_draw (ok_law_draw T) hr (by decide) (by rfl) (pa_cons (pv 0) (pa_cons pe_int pa_nil))) pe_int (nomark _)))) (fun _ _ _ _ _ => (pv 3))) pa_nil)))
    (pss_cons (ps_if (pt_cmpR op_eq (pe_callB (crK (K := K) (r := rLenX) cr_len) (by rfl) T.n_len (by decide +kernel) (pa_cons (pv 2) pa_nil)) pe_int (nomark _)) (pss_one (ps_ret (pe_tup (pa_cons (pe_cl T.law_draw (ok_law_draw T) hr (by decide) (by rfl) (pa_cons (pv 0) (pa_cons (pv 1) pa_nil))) pa_nil)))) pss_nil)
    (pss_one (ps_ret (pv 2))))), fun Q q => ?_⟩
    refine (ev_var (R := nI (n : Nat)) rfl rfl : EvX (tVar 1) _ H _).go fun v1 H1 e1 r1 => ?_
    cases r1
    refine ⟨_, rfl, by omega, by omega, ?_⟩
    rw [Int.toNat_natCast]
    have pp := hp.mo e1
    refine w_lc (S := nI) pp (by omega) (fun _ => rfl) (fun i ds => ds.Pairwise (· < ·) ∧ ∀ x ∈ ds, 0 ≤ x ∧ x < (i : Nat)) ⟨.nil, fun x hx => by cases hx⟩ (fun i ds hi h => ?_) (fun i H' hi e' p' Q' q' => ?_) (fun i H' hi e' p' Q' q' => ?_) (fun i ds h => ⟨h.1, fun x hx => by have := h.2 x hx; omega⟩) fun D ds H2 e2 p2 h2 _ r2 => ?_
    · have := lot_len (n := (i : Nat)) ⟨h.1, h.2⟩ (by omega)
      have k := nd_len ds (rng (i : Nat)) (h.1.imp fun h => by omega) fun x hx => mem_rng.mpr (h.2 x hx)
      rw [rng_len, Int.toNat_natCast] at k
      exact k
    · exact w_call (a := 2) p' rfl ⟨by decide, by decide⟩ (ea1 ev_c) fun v3 H3 e3 p3 r3 => by
        obtain ⟨r, _, r3⟩ := r3
        cases r3
        exact ⟨rfl, _, rfl, q' _ H3 e3 p3⟩
    · exact ⟨_, rfl, q' (i : Nat) _ H' (ExW.refl _) p' rfl fun ds h => ⟨List.pairwise_append.mpr ⟨h.1, List.pairwise_singleton _ _, fun a ha b hb => by
        rw [List.mem_singleton.mp hb]
        exact (h.2 a ha).2⟩, fun x hx => by
        rcases List.mem_append.mp hx with z | z
        · have := h.2 x z
          omega
        · rw [List.mem_singleton.mp z]
          omega⟩⟩
    · refine w_nil ?_
      refine w_tup (R := nI) r2 fun v3 H3 e3 r3 => ?_
      have p3 := p2.mo e3
      have e03 := ((ExW.of e1).trans e2).tex e3
      refine q_if (et_test (ev_eq (ev_lenT (T := nI) (ds := ds) (ev_var rfl r3)) ev_c rfl rfl)) (fun hb H4 e4 => ?_) fun hb H4 e4 => ?_
      · refine w_call (a := (n : Int)) (p3.mo e4) rfl ⟨by omega, by omega⟩ (ea1 (ev_var (R := nI (n : Nat)) rfl rfl)) fun v5 H5 e5 p5 r5 => ?_
        obtain ⟨r, ⟨r0, r1⟩, r5⟩ := r5
        refine (ev_tup1 (T := nI) (d := r) (ev_k (σ := []) r5)).go fun v6 H6 e6 r6 => q v6 H6 (((e03.tex e4).trans e5).tex e6) (p5.mo e6) ⟨[r], ⟨List.pairwise_singleton _ _, fun x hx => ?_⟩, r6⟩
        rw [List.mem_singleton.mp hx]
        exact ⟨r0, r1⟩
      · exact s_ret (R := Lot ds) (ev_var rfl (mo e4 r3)) fun v5 H5 e5 r5 => q v5 H5 ((e03.tex e4).tex e5) ((p3.mo e4).mo e5) ⟨ds, ⟨h2.1, h2.2⟩, r5⟩
end
end Rk
/-! drawn tables -/
namespace Rk
open PySem PySem.Spec PyProof.Rows L2
open Evl (Ex EvT)
theorem tab_nil (n : Int) : IsTab n [] := ⟨fun l h => (by cases h), .nil, .nil⟩
theorem tab_one (n : Int) : IsTab n [[]] := ⟨fun l h => by
  rw [List.mem_singleton.mp h]
  exact ⟨.nil, fun p hp => (by cases hp)⟩, List.pairwise_singleton _ _, List.pairwise_singleton _ _⟩
theorem least_len (ls : List (List Int)) : (leastL ls).length ≤ ls.length := List.length_filter_le _ _
abbrev spLeast : Sp := spP (fun ls : List (List Int) => ls.length ≤ 1000 ∧ ∀ l ∈ ls, l.length ≤ 1000) (fun ls => [Lots ls]) fun ls => ExR Tab fun t => t.Perm (leastL ls) ∧ t.Pairwise fun x y => HT.lexLt y x = false
section
variable {α β : Type} {P : Program} {w : World} {K : PySem.W.Frag} {σ : L2.St} {H : Hp} {ta tb te : TE} {t : TT} {D : Ends} {tu tz : TS} {E : XK}
theorem ev_least {ls : List (List Int)} {n : Int} (h6 : n ≤ 6) (h : EvX te σ H (Lots ls)) (hl : ls.length < 64) (hlot : ∀ l ∈ ls, IsLot n l) :
    EvX (tCall spLeast [] E (tCons (tCB (rSortSet P w) (tCons (tCB (rSetOfT K P w) (tCons te tNil)) tNil)) tNil)) σ H (ExR Tab fun t => IsTab n t ∧ t.length ≤ ls.length) := fun H1 e Q q =>
  ev_sortSet h hl H1 e (fun x H2 => spLeast ([x] ++ []) H2 Q E) fun v2 H2 e2 r => by
    obtain ⟨ls', ⟨hm, nd⟩, r2⟩ := r
    have hl' := nd_len ls' ls nd fun x hx => (hm x).mp hx
    refine ⟨ls', ⟨by omega, fun l hx => Nat.le_trans (lot_len (hlot l ((hm l).mp hx)) h6) (by decide)⟩, .cons r2 .nil, fun v H' e3 r3 => q v H' (e2.trans e3) ?_⟩
    obtain ⟨t, ⟨pm, pw⟩, rt⟩ := r3
    exact ⟨t, ⟨least_tab (fun l hx => hlot l ((hm l).mp hx)) nd pm pw, by rw [pm.length_eq]; exact Nat.le_trans (least_len ls') hl'⟩, rt⟩
theorem w_least {ls : List (List Int)} {n : Int} {v : V} {Q : VK} (h6 : n ≤ 6) (r : Lots ls H v) (hl : ls.length < 64) (hlot : ∀ l ∈ ls, IsLot n l) (q : ∀ u H', Ex H H' → ExR Tab (IsTab n) H' u → Q u H') :
    rSetOfT K P w [v] H fun x H1 => rSortSet P w [x] H1 fun x H1 => spLeast ([x] ++ []) H1 Q E := by
  have z : tCall spLeast [] E (tCons (tCB (rSortSet P w) (tCons (tCB (rSetOfT K P w) (tCons (fun _ H Q => Q v H) tNil)) tNil)) tNil) ([] : L2.St) H Q := (ev_least (K := K) (P := P) (w := w) (E := E) h6 (ev_k (σ := []) r) hl hlot).go fun u H' e r => by
    obtain ⟨t, h, rt⟩ := r
    exact q u H' e ⟨t, h.1, rt⟩
  exact z
theorem ev_listTFE {R : α → RP} {Pr : α → Prop} {Pl : List α → Prop} [∀ d, Mo (R d)] (h : EvX te σ H (ExR (Tup R) Pl)) : EvX (tCB (rLstX K) (tCons te tNil)) σ H (ExR (FrL H R) Pl) := fun H1 e1 _ q => h H1 e1 _ fun v H2 e2 s => by
  obtain ⟨ds, hp, a, vs, rfl, e, p⟩ := s
  exact ⟨a, vs, rfl, .inr (SqT.of e), fun l hl => q _ _ (e2.trans (Ex.new hl)) ⟨ds, hp, l, vs, rfl, upd_same, pmo (Ex.new hl) p, Evl.fresh_back (e1.trans e2) hl⟩⟩
theorem q_setW {i : Nat} (h : te σ H fun v H1 => tz D (σ.set i (some v)) H1) : tSeq (tAsg te (gName i)) tz D σ H := h
theorem w_ret (h : te σ H D.rt) : tRet te D σ H := h
theorem w_call1 {sp : Sp} {dvs : List V} {Q : VK} (h : te σ H fun x H1 => sp ([x] ++ dvs) H1 Q E) : tCall sp dvs E (tCons te tNil) σ H Q := h
theorem w_cb1 {r : List V → Hp → VK → Prop} {Q : VK} (h : te σ H fun x H1 => r [x] H1 Q) : tCB r (tCons te tNil) σ H Q := h
theorem w_opc {r : R2} {a : V} {Q : VK} (h : tb σ H fun y H2 => r a y H2 Q) : tOp r (tC a) tb σ H Q := h
theorem w_lcr {g : TG} {vs : List Nat} {Q : VK} {t1 : TE} (h : t1 σ H fun x H1 => ∃ j : Int, [x] = [V.int j] ∧ -(2 ^ 62) ≤ j ∧ j < 2 ^ 62 ∧ ∀ D, H1 D = none → ∃ W : Nat → Nat → Hp → Prop, (∃ m, W 0 m (upd H1 D (.lst []))) ∧ ∀ i k H, W i k H →
      ((Itr 0 j.toNat).stop i H ∧ Q (.ref D) H) ∨ ((Itr 0 j.toNat).go i H ∧ ∃ Nx : Hp → Prop, (∀ H', Nx H' → ∃ m', m' < k ∧ W (i + 1) m' H') ∧ ∀ x H', (Itr 0 j.toNat).yld i H x H' → g x (wipe σ vs) H' fun σ2 H2 => wipe σ2 vs = wipe σ vs ∧ t σ2 H2 fun b H3 =>
        if b = true then te σ2 H3 fun y H4 => ∃ acc, H4 D = some (.lst acc) ∧ acc.length < sizeLine ∧ Nx (upd H4 D (.lst (acc ++ [y]))) else Nx H3)) : tLc (iRng1 (tCons t1 tNil)) g t te vs σ H Q := h
theorem w_forr {g : TG} {t1 : TE} (h : t1 σ H fun x H1 => ∃ j : Int, [x] = [V.int j] ∧ -(2 ^ 62) ≤ j ∧ j < 2 ^ 62 ∧ ∃ W : Nat → Nat → L2.St → Hp → Prop, (∃ m, W 0 m σ H1) ∧ ∀ i m σ H, W i m σ H →
      ((Itr 0 j.toNat).stop i H ∧ tz D σ H) ∨ ((Itr 0 j.toNat).go i H ∧ ∃ N : L2.St → Hp → Prop, (∀ σ' H', N σ' H' → ∃ m', m' < m ∧ W (i + 1) m' σ' H') ∧ ∀ x H', (Itr 0 j.toNat).yld i H x H' → g x σ H' fun σ2 H2 => tu { D with nx := N, ct := N, bk := tz D } σ2 H2)) :
    tSeq (tFor (iRng1 (tCons t1 tNil)) g tu) tz D σ H := h
theorem w_forL {g : TG} (h : te σ H fun v H1 => tSeq (tFor (iList K fun _ H Q => Q v H) g tu) tz D σ H1) : tSeq (tFor (iList K te) g tu) tz D σ H := h
end
section
variable {P : Program} {w : World} {K : PySem.W.Frag} {mg : Str → Option Value} {base : Heap}
theorem ok_law_any (T : Txt K mg) : FnOk P w K mg base CX0 3 T.law_any.f T.law_any.fd ["_law_pool_here", "_law_folk"] (spW (fun n : Nat => 1 ≤ n ∧ n ≤ 6) (fun n => [nI (n : Nat)]) fun n => ExR Tab (IsTab n)) :=
  fn_w T.law_any sc_law_any (fun _ => rfl) fun cdv A outer s H E n p c rest hr hp hk pr => by
    obtain ⟨v, rfl, r⟩ := pone pr
    cases r
    refine ⟨_, (pss_cons (ps_set (i := 2) sc_law_any.nd rfl (.inl rfl) (pe_cl T.law_draw (ok_law_draw T) hr (by decide) (by rfl) (pa_cons (pv 0) (pa_cons pe_int pa_nil))))
    (pss_cons (ps_if (pt_cmpR op_eq (pv 2) pe_int (nomark _)) (pss_one (ps_ret (pe_tup pa_nil))) pss_nil)
    (pss_cons (ps_if (pt_cmpR op_eq (pv 2) pe_int (nomark _)) (pss_one (ps_ret (pe_tup (pa_cons (pe_tup pa_nil) pa_nil)))) pss_nil)
    (pss_one (ps_ret (pe_cl T.law_least (ok_law_least T) hr (by decide) (by rfl) (pa_cons (pe_callB (cr_sortSet rfl (hu3 hr)) (by rfl) T.n_sorted (by decide +kernel) (pa_cons (pe_callTy (cr_setOfT rfl (hr.units)) (by rfl) T.n_set (by decide +kernel) (pa_cons (pe_lc (own := [("_law_k", 3)]) rfl sc_law_any.nd (pi_range1 (by rfl) T.n_range (pa_cons (pe_op op_add pe_int (pe_cl T.law_draw (ok_law_draw T) hr (by decide) (by rfl) (pa_cons (pv 0) (pa_cons pe_int pa_nil)))) pa_nil)) (blkOk_by (own := [("_law_k", 3)]) (N := ["_law_pool_here", "_law_folk", "_law_way", "_law_k"]) (sc := defScope s_law_any) (by decide +kernel)) (fun _ _ _ _ _ => pg_name (i := 3) sc_law_any.nd rfl (Or.inl rfl)) (fun _ _ _ _ _ => pts_nil) (fun _ _ _ _ _ => (pe_cl T.law_drawn_lot (ok_law_drawn_lot T) hr (by decide) (by rfl) (pa_cons (pv 0) (pa_cons (pv 1) pa_nil))))) pa_nil)) pa_nil)) pa_nil))))))), fun Q q => ?_⟩
    refine q_setW (w_call (a := 10) hp rfl ⟨by decide, by decide⟩ (ea1 ev_c) fun v1 H1 e1 p1 r1 => ?_)
    obtain ⟨r, _, r1⟩ := r1
    cases r1
    refine q_if (et_test (ev_eq (x := .int r) (ev_var rfl rfl) ev_c rfl rfl)) (fun _ H2 e2 => s_ret (ev_tup0 (T := Lot)) fun v3 H3 e3 r3 => q v3 H3 ((e1.tex e2).tex e3) ((p1.mo e2).mo e3) ⟨[], tab_nil _, r3⟩) fun _ H2 e2 => ?_
    refine q_if (et_test (ev_eq (x := .int r) (ev_var rfl rfl) ev_c rfl rfl)) (fun _ H3 e3 => s_ret (ev_tup1 (T := Lot) (d := []) ev_tup0) fun v4 H4 e4 r4 => q v4 H4 (((e1.tex e2).tex e3).tex e4) (((p1.mo e2).mo e3).mo e4) ⟨[[]], tab_one _, r4⟩) fun _ H3 e3 => ?_
    have e03 := (e1.tex e2).tex e3
    have p3 := (p1.mo e2).mo e3
    refine w_ret (w_call1 (w_cb1 (w_cb1 (w_lcr (w_opc (w_call (a := 5) p3 rfl ⟨by decide, by decide⟩ (ea1 ev_c) fun v4 H4 e4 p4 r4 => ?_))))))
    obtain ⟨m, ⟨m0, m5⟩, r4⟩ := r4
    cases r4
    refine ⟨1, m, rfl, rfl, 1 + m, rfl, by omega, by omega, ?_⟩
    refine w_lc (S := Lot) p4 (by omega) (fun _ => rfl) (fun i ds => ds.length ≤ i ∧ ∀ l ∈ ds, IsLot n l) ⟨Nat.le_refl _, fun l hl => by cases hl⟩ (fun i ds _ h => h.1) (fun i H' hi e' p' Q' q' => q' _ H' (ExW.refl _) p') (fun i H' hi e' p' Q' q' => ?_) (fun i ds h => ⟨by omega, h.2⟩) fun D ds H5 e5 p5 h5 _ r5 => ?_
    · refine w_call (a := n) p' rfl hk (ea1 (ev_var (R := nI (n : Nat)) rfl rfl)) fun v6 H6 e6 p6 r6 => ?_
      obtain ⟨l, hl, r6⟩ := r6
      refine q' l v6 H6 e6 p6 r6 fun ds h => ⟨by rw [List.length_append, List.length_singleton]; omega, fun x hx => ?_⟩
      rcases List.mem_append.mp hx with z | z
      · exact h.2 x z
      · rw [List.mem_singleton.mp z]
        exact hl
    · exact w_least (by omega) r5 (by have := h5.1; omega) h5.2 fun u H6 e6 r6 => q u H6 (((e03.trans e4).trans e5).tex e6) (p5.mo e6) r6
theorem rngW {tu : TS} {j m : Nat} {D : Ends} {σ : L2.St} {H : Hp} {tz : L2.St → Hp → Prop} (Pv : Nat → L2.St → Hp → Prop) (h0 : Pv 0 σ H) (hs : ∀ (i : Nat) σ' H', i < m → Pv i σ' H' → tu { D with nx := Pv (i + 1), ct := Pv (i + 1), bk := tz } (σ'.set j (some (.int (i : Int)))) H') (hd : ∀ σ' H', Pv m σ' H' → tz σ' H') :
    ∃ W : Nat → Nat → L2.St → Hp → Prop, (∃ m, W 0 m σ H) ∧ ∀ i k σ H, W i k σ H →
      ((Itr 0 m).stop i H ∧ tz σ H) ∨ ((Itr 0 m).go i H ∧ ∃ N : L2.St → Hp → Prop, (∀ σ' H', N σ' H' → ∃ m', m' < k ∧ W (i + 1) m' σ' H') ∧ ∀ x H', (Itr 0 m).yld i H x H' → gName j x σ H' fun σ2 H2 => tu { D with nx := N, ct := N, bk := tz } σ2 H2) :=
  for_range (lo := 0) (D := { D with nx := tz }) Pv h0 (fun i σ' H' hi z => by
    rw [Int.zero_add]
    exact hs i σ' H' hi z) hd
/-- a list of lots that the pool does not reach -/
def LW (p c : Addr) (t : List (List Int)) : RP := fun H v => ∃ a vs, v = .ref a ∧ a ≠ p ∧ a ≠ c ∧ H a = some (.lst vs) ∧ Paired (fun v l => Lot l H v) vs t
theorem LW.lots {p c : Addr} {t : List (List Int)} {H : Hp} {v : V} (h : LW p c t H v) : Lots t H v := by
  obtain ⟨a, vs, rfl, _, _, h1, h2⟩ := h
  exact ⟨a, vs, rfl, h1, h2⟩
theorem LW.mv {p c : Addr} {t : List (List Int)} {H H' : Hp} {v : V} (h : LW p c t H v) (pp : PoolAt H p c) (e : ExW p c H H') : LW p c t H' v := by
  obtain ⟨a, vs, rfl, a1, a2, h1, h2⟩ := h
  exact ⟨a, vs, rfl, a1, a2, e a _ a1 a2 h1, pmt (e.t pp) h2⟩
theorem LW.of {p c : Addr} {t : List (List Int)} {H H' : Hp} {v : V} (pp : PoolAt H p c) (h : FrL H Lot t H' v) : LW p c t H' v := by
  obtain ⟨a, vs, rfl, h1, h2, h3⟩ := h
  exact ⟨a, vs, rfl, (pp.notNone h3).1, (pp.notNone h3).2, h1, h2⟩
theorem ok_law_round (T : Txt K mg) : FnOk P w K mg base CX0 3 T.law_round.f T.law_round.fd ["_law_pool_here", "_law_folk"] (spW (fun n : Nat => 1 ≤ n ∧ n ≤ 6) (fun n => [nI (n : Nat)]) fun n => ExR Tab (IsTab n)) :=
  fn_w T.law_round sc_law_round (fun _ => rfl) fun cdv A outer s H E n p c rest hr hp hk pr => by
    obtain ⟨v, rfl, r⟩ := pone pr
    cases r
    refine ⟨_, (pss_cons (ps_set (i := 2) sc_law_round.nd rfl (.inl rfl) (pe_lst pa_nil))
    (pss_cons (ps_for PassesOwn.never rfl (pi_range1 (by rfl) T.n_range (pa_cons (pe_op op_add pe_int (pe_cl T.law_draw (ok_law_draw T) hr (by decide) (by rfl) (pa_cons (pv 0) (pa_cons pe_int pa_nil)))) pa_nil)) (pg_name (i := 3) sc_law_round.nd rfl (.inl rfl))
      (pss_cons (ps_set (i := 4) sc_law_round.nd rfl (.inr rfl) (pe_cl T.law_drawn_lot (ok_law_drawn_lot T) hr (by decide) (by rfl) (pa_cons (pv 0) (pa_cons (pv 1) pa_nil))))
    (pss_one (ps_if (pt_val (pe_callB (crK (K := K) (r := rAll) (cr_all rfl)) (by rfl) T.n_all (by decide +kernel) (pa_cons (pe_lc (own := [("_law_other", 5)]) rfl sc_law_round.nd (piK (K := K) (r := fun K => iList K _) (pi_list (pv 2))) (blkOk_by (own := [("_law_other", 5)]) (N := ["_law_pool_here", "_law_folk", "_law_found", "_law_k", "_law_lot", "_law_other"]) (sc := defScope s_law_round) (by decide +kernel)) (fun _ _ _ _ _ => pg_name (i := 5) sc_law_round.nd rfl (Or.inl rfl)) (fun _ _ _ _ _ => pts_nil) (fun _ _ _ _ _ => (pe_cl T.law_meets (ok_law_meets T) hr (by decide) (by rfl) (pa_cons (pv 4) (pa_cons (pv 5) pa_nil))))) pa_nil))) (pss_one (ps_set (i := 2) sc_law_round.nd rfl (.inl rfl) (pe_callTy (crK (K := K) (r := rLstX) cr_list) (by rfl) T.n_list (by decide +kernel) (pa_cons (pe_cl T.law_least (ok_law_least T) hr (by decide) (by rfl) (pa_cons (pe_callB (cr_sortSet rfl (hu3 hr)) (by rfl) T.n_sorted (by decide +kernel) (pa_cons (pe_callTy (cr_setOfT rfl (hr.units)) (by rfl) T.n_set (by decide +kernel) (pa_cons (pe_op op_cat (pv 2) (pe_lst (pa_cons (pv 4) pa_nil))) pa_nil)) pa_nil)) pa_nil)) pa_nil)))) pss_nil))))
    (pss_one (ps_ret (pe_callTy (crK (K := K) (r := rTupX) cr_tuple) (by rfl) T.n_tuple (by decide +kernel) (pa_cons (pe_callB (crK (K := K) (r := rSortLots) (cr_sortLots (hu2 hr))) (by rfl) T.n_sorted (by decide +kernel) (pa_cons (pv 2) pa_nil)) pa_nil)))))), fun Q q => ?_⟩
    refine q_set (ev_lst0F (R := Lot)) fun v1 H1 e1 r1 => ?_
    have p1 := hp.mo e1
    refine w_forr (w_opc (w_call (a := 6) p1 rfl ⟨by decide, by decide⟩ (ea1 ev_c) fun v2 H2 e2 p2 r2 => ?_))
    obtain ⟨m, ⟨m0, m6⟩, r2⟩ := r2
    cases r2
    refine ⟨1, m, rfl, rfl, 1 + m, rfl, by omega, by omega, ?_⟩
    refine rngW (fun i σ' H' => ∃ fv y3 y4 t, σ' = [some (.ref p), some (.int (n : Nat)), some fv, y3, y4, none] ∧ ExW p c H H' ∧ PoolAt H' p c ∧ LW p c t H' fv ∧ IsTab n t ∧ t.length ≤ i) ?_ (fun i σ' H' hi z => ?_) fun σ' H' z => ?_
    · exact ⟨v1, none, none, [], rfl, (ExW.of e1).trans e2, p2, (LW.of hp r1).mv p1 e2, tab_nil _, Nat.le_refl _⟩
    · obtain ⟨fv, y3, y4, t, rfl, eW, pp, rl, ht, hl⟩ := z
      refine q_setW (w_call (a := n) pp rfl hk (ea1 (ev_var (R := nI (n : Nat)) rfl rfl)) fun v4 H4 e4 p4 r4 => ?_)
      obtain ⟨l, hlot, r4⟩ := r4
      have rl4 := rl.mv pp e4
      have ll := lot_len hlot (by omega)
      refine s_if (et_B (ev_all (ev_lcm (R := Lot) (fun o => meetsB l o) (ei_list (ev_var rfl rl4.lots)) (by omega) (fun _ => rfl) fun x o H5 e5 ho ro => ev_call (a := (l, o)) (show l.length ≤ 1000 by omega) (ea_cons (ev_var rfl (mo e5 r4)) (ea1 (ev_var rfl ro)))))) (fun hb H5 e5 => ?_) fun hb H5 e5 => ?_
      · have p5 := p4.mo e5
        refine s_set (ev_listTFE (Pr := fun _ : List Int => True) (ev_least (n := n) (by omega) (ev_catL (T := Lot) (ev_var rfl (mo e5 rl4.lots)) (ev_lst1 (ev_var rfl (mo e5 r4))) (by rw [List.length_singleton]; omega)) (by rw [List.length_append, List.length_singleton]; omega) fun x hx => ?_)) fun v6 H6 e6 r6 => ?_
        · rcases List.mem_append.mp hx with z | z
          · exact ht.lots x z
          · rw [List.mem_singleton.mp z]
            exact hlot
        · obtain ⟨t', ⟨ht', hl'⟩, r6⟩ := r6
          rw [List.length_append, List.length_singleton] at hl'
          exact ⟨v6, _, _, t', rfl, ((eW.trans e4).tex e5).tex e6, p5.mo e6, LW.of p5 r6, ht', by omega⟩
      · exact ⟨fv, _, _, t, rfl, (eW.trans e4).tex e5, p4.mo e5, rl4.mv p4 (.of e5), ht, by omega⟩
    · obtain ⟨fv, y3, y4, t, rfl, eW, pp, rl, ht, hl⟩ := z
      refine s_ret (ev_tupleE (ev_sortLots (ev_var rfl rl.lots))) fun v4 H4 e4 r4 => q v4 H4 (eW.tex e4) (pp.mo e4) ?_
      obtain ⟨t', ⟨pm, pw⟩, r4⟩ := r4
      exact ⟨t', tab_of ht.lots (tab_nd ht) (fun a ha b hb ne => tab_anti ht ha hb ne) pm pw, r4⟩
theorem ok_law_full (T : Txt K mg) : FnOk P w K mg base CX0 4 T.law_full.f T.law_full.fd ["_law_pool_here", "_law_folk"] (spW (fun n : Nat => 1 ≤ n ∧ n ≤ 6) (fun n => [nI (n : Nat)]) fun n => ExR Tab (IsTab n)) :=
  fn_w T.law_full sc_law_full (fun _ => rfl) fun cdv A outer s H E n p c rest hr hp hk pr => by
    obtain ⟨v, rfl, r⟩ := pone pr
    cases r
    refine ⟨_, (pss_cons (ps_set (i := 2) sc_law_full.nd rfl (.inl rfl) (pe_cl T.law_round (ok_law_round T) hr (by decide) (by rfl) (pa_cons (pv 0) (pa_cons (pv 1) pa_nil))))
    (pss_cons (ps_for PassesOwn.never rfl (piK (K := K) (r := fun K => iList K _) (pi_list (pe_cl T.law_mixed (ok_law_mixed T) hr (by decide) (by rfl) (pa_cons (pv 0) (pa_cons (pe_cl T.law_lots (ok_law_lots T) hr (by decide) (by rfl) (pa_cons (pv 1) pa_nil)) pa_nil))))) (pg_name (i := 3) sc_law_full.nd rfl (.inl rfl))
      (pss_one (ps_if (PW.pt (pw_and (pt_cmpR op_gt (pe_callB (crK (K := K) (r := rLenX) cr_len) (by rfl) T.n_len (by decide +kernel) (pa_cons (pv 3) pa_nil)) pe_int (nomark _)) (pw_and (pt_not (pt_val (pe_cl T.law_carries (ok_law_carries T) hr (by decide) (by rfl) (pa_cons (pv 2) (pa_cons (pv 3) pa_nil))))) (pw_and1 (pt_not (pt_val (pe_cl T.law_carries (ok_law_carries T) hr (by decide) (by rfl) (pa_cons (pv 2) (pa_cons (pe_cl T.law_rest (ok_law_rest T) hr (by decide) (by rfl) (pa_cons (pv 1) (pa_cons (pv 3) pa_nil))) pa_nil))))))))) (pss_one (ps_set (i := 2) sc_law_full.nd rfl (.inl rfl) (pe_cl T.law_least (ok_law_least T) hr (by decide) (by rfl) (pa_cons (pe_op op_cat (pe_callTy (crK (K := K) (r := rLstX) cr_list) (by rfl) T.n_list (by decide +kernel) (pa_cons (pv 2) pa_nil)) (pe_lst (pa_cons (pv 3) pa_nil))) pa_nil)))) pss_nil)))
    (pss_one (ps_ret (pv 2))))), fun Q q => ?_⟩
    refine q_setW (w_call (a := n) hp rfl hk (ea1 (ev_var (R := nI (n : Nat)) rfl rfl)) fun v1 H1 e1 p1 r1 => ?_)
    obtain ⟨t0, ht0, r1⟩ := r1
    refine w_forL (w_callE rfl (ev_call (a := n) hk.2 (ea1 (ev_var (R := nI (n : Nat)) rfl rfl))) fun v2 H2 e2 r2 => ?_)
    obtain ⟨ls, hls, a, vs, rfl, hA, pA⟩ := r2
    have p2 := p1.mo e2
    have lA := plen pA
    refine w_call (a := vs) p2 rfl (by have := hls.2; omega) (ea1 (ev_k (R := Lst Is vs) ⟨a, vs, rfl, hA, prefl vs⟩)) fun v3 H3 e3 p3 r3 => ?_
    obtain ⟨us, pm, b, ws, rfl, hB, pB⟩ := r3
    cases pid pB
    obtain ⟨ds, pd, pD⟩ := pperm pm (pmt (e3.t p2) pA)
    have ld := pd.length_eq
    have e03 := (e1.tex e2).trans e3
    refine q_for (ei_list (T := Lot) (ds := ds) (ev_k ⟨b, us, rfl, hB, pD⟩)) fun H4 e4 => ⟨fun i σ' H' => ∃ kv y t, σ' = [some (.ref p), some (.int (n : Nat)), some kv, y] ∧ Tab t H' kv ∧ IsTab n t, ⟨v1, none, t0, rfl, mo e4 (mw p2 e3 (mo e2 r1)), ht0⟩, fun i σ' H' H'' e z => ?_, fun i l x σ' H' hd e5 z rd => ?_, fun σ' H' e5 z => ?_⟩
    · obtain ⟨kv, y, t, hσ, hl, z⟩ := z
      exact ⟨kv, y, t, hσ, mo e hl, z⟩
    · obtain ⟨kv, y, t, rfl, rk, ht⟩ := z
      have hlot : IsLot n l := (hls.1 l).mp (pd.mem_iff.mp (List.mem_of_getElem? hd))
      have hl : t.length ≤ 64 := tab_len hk.2 ht
      have hll := tab_lots hk.2 ht
      have hl1 : t.length ≤ 1000 := by omega
      refine s_if (Evl.et_and (a := decide (0 < l.length)) (b := !carB t l && !carB t (restL n l)) (et_test (ev_i0 (ev_lenT (T := nI) (ev_var rfl rd)) ev_c (by congr 1; exact decide_eq_decide.mpr (by omega)))) fun _ => Evl.et_and (Evl.et_not (et_B (ev_call (a := (t, l)) ⟨hl1, hll⟩ (ea_cons (ev_var rfl rk) (ea1 (ev_var rfl rd)))))) fun _ => Evl.et_not (et_B (ev_call (a := (t, restL n l)) ⟨hl1, hll⟩ (ea_cons (ev_var rfl rk) (ea1 (ev_call (a := ((n : Int), l)) ⟨by omega, by omega⟩ (ea_cons (ev_var (R := nI (n : Nat)) rfl rfl) (ea1 (ev_var rfl rd))))))))) (fun hb H6 e6 => ?_) fun hb H6 e6 => ?_
      · have nc : carB t l = false := by
          rw [Bool.and_eq_true, Bool.and_eq_true, Bool.not_eq_true'] at hb
          exact hb.2.1
        have lots : ∀ x ∈ t ++ [l], IsLot n x := fun x hx => by
          rcases List.mem_append.mp hx with z | z
          · exact ht.lots x z
          · rw [List.mem_singleton.mp z]
            exact hlot
        refine s_set (ev_call (a := t ++ [l]) ⟨by rw [List.length_append, List.length_singleton]; omega, fun x hx => Nat.le_trans (lot_len (lots x hx) (by omega)) (by decide)⟩ (ea1 (ev_catL (T := Lot) (ev_listT (ev_var rfl (mo e6 rk))) (ev_lst1 (ev_var rfl (mo e6 rd))) (by rw [List.length_singleton]; omega)))) fun v7 H7 e7 r7 => ?_
        obtain ⟨t', ⟨pm, pw⟩, r7⟩ := r7
        refine ⟨(e5.trans e6).trans e7, v7, _, t', rfl, r7, least_tab lots (List.nodup_append.mpr ⟨tab_nd ht, List.nodup_cons.mpr ⟨fun h => (by cases h), List.nodup_nil⟩, fun a ha b hb e => ?_⟩) pm pw⟩
        rw [List.mem_singleton.mp hb] at e
        subst e
        rw [car_iff.mpr ⟨a, ha, fun _ x => x⟩] at nc
        cases nc
      · exact ⟨e5.trans e6, kv, _, t, rfl, mo e6 rk, ht⟩
    · obtain ⟨kv, y, t, rfl, rk, ht⟩ := z
      exact s_ret (ev_var rfl rk) fun v6 H6 e6 r6 => q v6 H6 (((e03.tex e4).tex e5).tex e6) (((p3.mo e4).mo e5).mo e6) ⟨t, ht, r6⟩
theorem ok_law_drawn (T : Txt K mg) : FnOk P w K mg base CX0 5 T.law_drawn.f T.law_drawn.fd ["_law_pool_here", "_law_folk"] (spW (fun n : Nat => 1 ≤ n ∧ n ≤ 6) (fun n => [nI (n : Nat)]) fun n => ExR Tab (IsTab n)) :=
  fn_w T.law_drawn sc_law_drawn (fun _ => rfl) fun cdv A outer s H E n p c rest hr hp hk pr => by
    obtain ⟨v, rfl, r⟩ := pone pr
    cases r
    refine ⟨_, (pss_cons (ps_set (i := 2) sc_law_drawn.nd rfl (.inl rfl) (pe_cl T.law_draw (ok_law_draw T) hr (by decide) (by rfl) (pa_cons (pv 0) (pa_cons pe_int pa_nil))))
    (pss_cons (ps_if (pt_cmpR op_eq (pv 2) pe_int (nomark _)) (pss_one (ps_ret (pe_cl T.law_any (ok_law_any T) hr (by decide) (by rfl) (pa_cons (pv 0) (pa_cons (pv 1) pa_nil))))) pss_nil)
    (pss_cons (ps_if (pt_cmpR op_eq (pv 2) pe_int (nomark _)) (pss_one (ps_ret (pe_cl T.law_round (ok_law_round T) hr (by decide) (by rfl) (pa_cons (pv 0) (pa_cons (pv 1) pa_nil))))) pss_nil)
    (pss_one (ps_ret (pe_cl T.law_full (ok_law_full T) hr (by decide) (by rfl) (pa_cons (pv 0) (pa_cons (pv 1) pa_nil)))))))), fun Q q => ?_⟩
    refine q_setW (w_call (a := 3) hp rfl ⟨by decide, by decide⟩ (ea1 ev_c) fun v1 H1 e1 p1 r1 => ?_)
    obtain ⟨r, _, r1⟩ := r1
    cases r1
    refine q_if (et_test (ev_eq (x := .int r) (ev_var rfl rfl) ev_c rfl rfl)) (fun _ H2 e2 => w_ret (w_call (a := n) (p1.mo e2) rfl hk (ea1 (ev_var (R := nI (n : Nat)) rfl rfl)) fun v3 H3 e3 p3 r3 => q v3 H3 ((e1.tex e2).trans e3) p3 r3)) fun _ H2 e2 => ?_
    refine q_if (et_test (ev_eq (x := .int r) (ev_var rfl rfl) ev_c rfl rfl)) (fun _ H3 e3 => w_ret (w_call (a := n) ((p1.mo e2).mo e3) rfl hk (ea1 (ev_var (R := nI (n : Nat)) rfl rfl)) fun v3 H4 e4 p4 r4 => q v3 H4 (((e1.tex e2).tex e3).trans e4) p4 r4)) fun _ H3 e3 => ?_
    exact w_ret (w_call (a := n) ((p1.mo e2).mo e3) rfl hk (ea1 (ev_var (R := nI (n : Nat)) rfl rfl)) fun v3 H4 e4 p4 r4 => q v3 H4 (((e1.tex e2).tex e3).trans e4) p4 r4)
theorem ok_law_size (T : Txt K mg) : FnOk P w K mg base CX0 2 T.law_size.f T.law_size.fd ["_law_pool_here"] (spW (fun _ : Unit => True) (fun _ => []) fun _ => ExR (fun n : Nat => nI (n : Nat)) fun n => 1 ≤ n ∧ n ≤ 6) :=
  fn_w T.law_size sc_law_size (fun _ => rfl) fun cdv A outer s H E _ p c rest hr hp hk pr => by
    cases pr
    refine ⟨_, (pss_one (ps_ret (pe_ix (ixK (K := K) (r := rIxL) ix_list) (pe_lst (pa_cons pe_int (pa_cons pe_int (pa_cons pe_int (pa_cons pe_int (pa_cons pe_int (pa_cons pe_int (pa_cons pe_int (pa_cons pe_int (pa_cons pe_int (pa_cons pe_int pa_nil))))))))))) (pe_cl T.law_draw (ok_law_draw T) hr (by decide) (by rfl) (pa_cons (pv 0) (pa_cons pe_int pa_nil))) (fun _ _ => rfl)))), fun Q q => ?_⟩
    refine ⟨by decide, fun a ha => ?_⟩
    obtain ⟨a1, a2⟩ := hp.notNone ha
    refine w_call (a := 10) (hp.mo (Ex.new ha)) rfl ⟨by decide, by decide⟩ (ea1 ev_c) fun v1 H1 e1 p1 r1 => ?_
    obtain ⟨r, ⟨r0, r10⟩, r1⟩ := r1
    cases r1
    have key : ∀ k : Nat, k < 10 → ∃ n : Nat, (1 ≤ n ∧ n ≤ 6) ∧ [V.int 1, V.int 2, V.int 3, V.int 3, V.int 4, V.int 4, V.int 4, V.int 4, V.int 5, V.int 6][k]? = some (V.int (n : Nat)) := fun k hk => match k, hk with
      | 0, _ => ⟨1, by decide, rfl⟩
      | 1, _ => ⟨2, by decide, rfl⟩
      | 2, _ => ⟨3, by decide, rfl⟩
      | 3, _ => ⟨3, by decide, rfl⟩
      | 4, _ => ⟨4, by decide, rfl⟩
      | 5, _ => ⟨4, by decide, rfl⟩
      | 6, _ => ⟨4, by decide, rfl⟩
      | 7, _ => ⟨4, by decide, rfl⟩
      | 8, _ => ⟨5, by decide, rfl⟩
      | 9, _ => ⟨6, by decide, rfl⟩
    obtain ⟨n, hn, hx⟩ := key r.toNat (by omega)
    exact ⟨a, _, r, _, rfl, rfl, SqL.of (e1 a _ a1 a2 upd_same), at_of (j := r.toNat) (by omega) hx, q _ H1 ((ExW.of (Ex.new ha)).trans e1) p1 ⟨n, hn, rfl⟩⟩
end
end Rk
/-! the law -/
namespace Rk
open PySem PySem.Spec PyProof.Rows L2
open Evl (Ex EvT)
def AnI : RP := fun _ v => ∃ i : Int, v = .int i
instance : MoT AnI := ⟨fun _ h => h⟩
/-- the script -/
def Scr (K : PySem.W.Frag) (ns : List Int) : RP := fun H v => ∃ a, v = .ref a ∧ SqL K H a (ns.map V.int)
instance {K : PySem.W.Frag} {ns : List Int} : Mo (Scr K ns) := ⟨fun e ⟨a, h1, h2⟩ => ⟨a, h1, Evl.ex_l e h2⟩⟩
def IsPool : RP := fun H v => ∃ p c, v = .ref p ∧ PoolAt H p c
def rAbs : List V → Hp → VK → Prop := fun xs H Q => ∃ i, xs = [.int i] ∧ Q (.int (if i < 0 then -i else i)) H
def rIsN : R2 := fun x y H Q => y = .non ∧ Q (.bl (decide (x = .non))) H
def rNotN : R2 := fun x y H Q => y = .non ∧ Q (.bl (!decide (x = .non))) H
section
variable {α β : Type} {P : Program} {w : World} {K : PySem.W.Frag} {σ : L2.St} {H : Hp} {ta tb te : TE} {t : TT} {D : Ends} {tu tz : TS} {E : XK}
theorem w_consC {a : V} {tr : TA} {Q : List V → Hp → Prop} (h : tr σ H fun xs H1 => Q (a :: xs) H1) : tCons (tC a) tr σ H Q := h
theorem w_cons1 {Q : List V → Hp → Prop} (h : te σ H fun x H1 => Q [x] H1) : tCons te tNil σ H Q := h
theorem ev_an {i : Int} (h : EvX te σ H (nI i)) : EvX te σ H AnI := h.imp fun _ _ r => ⟨i, r⟩
theorem ev_anO {C : Int → Int → Prop} {g : Int → Int → V} (ha : EvX ta σ H AnI) (hb : EvX tb σ H AnI) (hc : ∀ i j, C i j) (hg : ∀ i j, ∃ k : Int, g i j = .int k) : EvX (tOp (rI C g) ta tb) σ H AnI := ev_op ha hb fun x y H3 _ h1 h2 Q q => by
  obtain ⟨i, rfl⟩ := h1
  obtain ⟨j, rfl⟩ := h2
  exact ⟨i, j, rfl, rfl, hc i j, q _ H3 (Ex.refl _) (hg i j)⟩
theorem ev_anL {C : Int → Int → Prop} {g : Int → Int → V} {j : Int} (ha : EvX ta σ H AnI) (hb : EvX tb σ H (nI j)) (hc : ∀ i, C i j) (hg : ∀ i j, ∃ k : Int, g i j = .int k) : EvX (tOp (rI C g) ta tb) σ H AnI := ev_op ha hb fun x y H3 _ h1 h2 Q q => by
  obtain ⟨i, rfl⟩ := h1
  cases h2
  exact ⟨i, j, rfl, rfl, hc i, q _ H3 (Ex.refl _) (hg i j)⟩
theorem ev_an0 {g : Int → Int → V} (ha : EvX ta σ H AnI) (hb : EvX tb σ H AnI) (hg : ∀ i j, ∃ k : Int, g i j = .int k) : EvX (tOp (rI0 g) ta tb) σ H AnI := ev_op ha hb fun x y H3 _ h1 h2 Q q => by
  obtain ⟨i, rfl⟩ := h1
  obtain ⟨j, rfl⟩ := h2
  exact ⟨i, j, rfl, rfl, q _ H3 (Ex.refl _) (hg i j)⟩
theorem ev_anI (h : EvX te σ H AnI) : EvX (tCB rInt1 (tCons te tNil)) σ H AnI := ev_cb1 h fun v H2 _ s Q q => by
  obtain ⟨i, rfl⟩ := s
  exact .inl ⟨_, rfl, q _ H2 (Ex.refl H2) ⟨i, rfl⟩⟩
theorem ev_abs {i : Int} (h : EvX te σ H (nI i)) : EvX (tCB rAbs (tCons te tNil)) σ H (nI (if i < 0 then -i else i)) := ev_cb1 h fun v H2 _ s Q q => by
  cases s
  exact ⟨i, rfl, q _ H2 (Ex.refl H2) rfl⟩
theorem ev_scrTake {ns : List Int} {k : Int} {m : Nat} (h : EvX te σ H (Scr K ns)) (e : k = (m : Int)) : EvX (tSl (rSlL K) te tNoPart (tPart (tC (.int k)))) σ H (Ints (ns.take m)) := fun H1 e1 Q q => h H1 e1 _ fun v H2 e2 r => by
  obtain ⟨a, rfl, ha⟩ := r
  subst e
  refine ⟨_, rfl, a, _, rfl, ha, fun p hp => q _ _ (e2.trans (Ex.new hp)) ?_⟩
  rw [cut_hi (α := Unit), ← List.map_take]
  exact raw_ints upd_same
theorem ev_scrLen {ns : List Int} (h : EvX te σ H (Scr K ns)) : EvX (tCB (rLenX K) (tCons te tNil)) σ H (nI ns.length) := ev_cb1 h fun v H2 _ s Q q => by
  obtain ⟨a, rfl, e⟩ := s
  exact ⟨_, (ns.map V.int).length, rfl, .inl ⟨_, e, rfl⟩, q _ H2 (Ex.refl H2) (by rw [List.length_map]; rfl)⟩
theorem ev_isN {p : Prop} {b : Bool} (h : EvX ta σ H (NonIf p)) (e : b = true ↔ p) : EvX (tOp rIsN ta (tC .non)) σ H (nB b) := ev_op h (ev_c (x := .non)) fun x y H3 _ h1 h2 Q q => by
  cases h2
  refine ⟨rfl, q _ H3 (Ex.refl _) (congrArg V.bl ?_)⟩
  rw [Bool.eq_iff_iff, decide_eq_true_iff, e]
  exact h1
theorem ev_notN {p : Prop} {b : Bool} (h : EvX ta σ H (NonIf p)) (e : b = true ↔ ¬ p) : EvX (tOp rNotN ta (tC .non)) σ H (nB b) := ev_op h (ev_c (x := .non)) fun x y H3 _ h1 h2 Q q => by
  cases h2
  refine ⟨rfl, q _ H3 (Ex.refl _) (congrArg V.bl ?_)⟩
  rw [Bool.eq_iff_iff, Bool.not_eq_true', decide_eq_false_iff_not, e]
  exact not_congr h1
theorem ev_call2E {ok : α → Prop} {args : α → List RP} {res : α → RP} {S : RP} [Mo S] {R : β → RP} {p : β → Prop} (f : β → α) (h1 : EvX ta σ H S) (h2 : EvX tb σ H (ExR R p)) (hk : ∀ b, p b → ok (f b)) (ha : ∀ b, args (f b) = [S, R b]) :
    EvX (tCall (spP ok args res) [] E (tCons ta (tCons tb tNil))) σ H fun H v => ∃ b, p b ∧ res (f b) H v := fun H1 e Q q => h1 H1 e _ fun x H2 e2 r2 => h2 H2 (e.trans e2) _ fun y H3 e3 r3 => by
  obtain ⟨b, hb, r3⟩ := r3
  refine ⟨f b, hk b hb, ?_, fun v H' e4 r => q v H' ((e2.trans e3).trans e4) ⟨b, hb, r⟩⟩
  rw [ha]
  exact .cons (mo e3 r2) (.cons r3 .nil)
end
theorem word_none (t : List (List Int)) : decide (V.str (wordT t) = V.str "none") = true ↔ Dj t := by
  rw [decide_eq_true_iff]
  unfold wordT
  by_cases h : Dj t
  · rw [if_pos h]
    exact ⟨fun _ => h, fun _ => rfl⟩
  · rw [if_neg h]
    refine ⟨fun z => ?_, fun z => absurd z h⟩
    by_cases k : Ou t
    · rw [if_pos k] at z
      exact absurd z (by decide)
    · rw [if_neg k] at z
      exact absurd z (by decide)
theorem word_out (t : List (List Int)) : decide (V.str (wordT t) = V.str "outright") = true ↔ ¬ Dj t ∧ Ou t := by
  rw [decide_eq_true_iff]
  unfold wordT
  by_cases h : Dj t
  · rw [if_pos h]
    exact ⟨fun z => absurd z (by decide), fun z => absurd h z.1⟩
  · rw [if_neg h]
    by_cases k : Ou t
    · rw [if_pos k]
      exact ⟨fun _ => ⟨h, k⟩, fun _ => rfl⟩
    · rw [if_neg k]
      exact ⟨fun z => absurd z (by decide), fun z => absurd z.2 k⟩
theorem word_congr {t t' : List (List Int)} (h1 : Dj t' ↔ Dj t) (h2 : Ou t' ↔ Ou t) : wordT t' = wordT t := by
  unfold wordT
  by_cases h : Dj t
  · rw [if_pos h, if_pos (h1.mpr h)]
  · rw [if_neg h, if_neg fun z => h (h1.mp z)]
    by_cases k : Ou t
    · rw [if_pos k, if_pos (h2.mpr k)]
    · rw [if_neg k, if_neg fun z => k (h2.mp z)]
theorem word_nil : wordT [] = "round" := by
  unfold wordT
  rw [if_neg (by rintro ⟨a, h, _⟩; cases h), if_neg fun h => by
    obtain ⟨a, ha, _⟩ := h fun _ => true
    cases ha]
theorem word_one : wordT [[]] = "none" := by
  unfold wordT
  rw [if_pos]
  exact ⟨[], List.mem_singleton.mpr rfl, [], List.mem_singleton.mpr rfl, fun p hp => by cases hp⟩
theorem pints : ∀ {vs : List V} {ns : List Int}, Paired (fun v d => v = V.int d) vs ns → vs = ns.map V.int
  | _, _, .nil => rfl
  | _, _, .cons r t => by rw [List.map_cons, r, pints t]
def spLaw (K : PySem.W.Frag) : Sp := fun vs H Q _ => ∃ (a : Addr) (ns : List Int), vs = [.ref a] ∧ ns.length ≤ 63 ∧ SqL K H a (ns.map V.int) ∧ ∀ H', Q (.bl true) H'
section
variable {P : Program} {w : World} {K : PySem.W.Frag} {mg : Str → Option Value} {base : Heap}
theorem ok_law_pool (T : Txt K mg) : FnOk P w K mg base CX0 1 T.law_pool.f T.law_pool.fd ["_law_script"] (spP (fun ns : List Int => ns.length ≤ 63) (fun ns => [Scr K ns]) fun _ => IsPool) :=
  fn_p T.law_pool sc_law_pool (fun _ => rfl) fun cdv A outer s H E ns vs hr hk p => by
    obtain ⟨v, rfl, r⟩ := pone p
    refine ⟨_, (pss_cons (ps_set (i := 1) sc_law_pool.nd rfl (.inl rfl) (pe_op op_add (pe_op op_add (pe_op op_mod (pe_callTy call_int1 (by rfl) T.n_int (by decide +kernel) (pa_cons (pe_callB (crK (K := K) (r := rSum) (cr_sum rfl)) (by rfl) T.n_sum (by decide +kernel) (pa_cons (pe_slice (slK (K := K) (r := rSlL) sl_list) (pv 0) po_none (po_some pe_int)) pa_nil)) pa_nil)) pe_int) (pe_callB (crK (K := K) (r := rLenX) cr_len) (by rfl) T.n_len (by decide +kernel) (pa_cons (pv 0) pa_nil))) pe_int))
    (pss_cons (ps_for PassesOwn.never rfl (piK (K := K) (r := fun K => iList K _) (pi_list (pe_slice (slK (K := K) (r := rSlL) sl_list) (pv 0) po_none (po_some pe_int)))) (pg_name (i := 2) sc_law_pool.nd rfl (.inl rfl))
      (pss_one (ps_set (i := 1) sc_law_pool.nd rfl (.inl rfl) (pe_op op_mod (pe_callTy call_int1 (by rfl) T.n_int (by decide +kernel) (pa_cons (pe_op op_add (pe_op op_add (pe_op op_mul (pv 1) pe_int) (pe_op op_mod (pe_callTy call_int1 (by rfl) T.n_int (by decide +kernel) (pa_cons (pv 2) pa_nil)) pe_int)) pe_int) pa_nil)) pe_int))))
    (pss_one (ps_ret (pe_lst (pa_cons (pv 1) (pa_cons pe_int (pa_cons (pe_lc (own := [("_law_cell", 2)]) rfl sc_law_pool.nd (piK (K := K) (r := fun K => iList K _) (pi_list (pe_slice (slK (K := K) (r := rSlL) sl_list) (pv 0) po_none (po_some pe_int)))) (blkOk_by (own := [("_law_cell", 2)]) (N := ["_law_script", "_law_seed", "_law_cell"]) (sc := defScope s_law_pool) (by decide +kernel)) (fun _ _ _ _ _ => pg_name (i := 2) sc_law_pool.nd rfl (Or.inl rfl)) (fun _ _ _ _ _ => (pts_one (pt_cmpR op_ge (pe_callB call_abs (by rfl) T.n_abs (by decide +kernel) (pa_cons (pv 2) pa_nil)) (pe_op op_pow pe_int pe_int) (nomark _)))) (fun _ _ _ _ _ => (pe_callB call_abs (by rfl) T.n_abs (by decide +kernel) (pa_cons (pv 2) pa_nil)))) pa_nil)))))))), fun Q q => ?_⟩
    refine q_set (ev_an0 (ev_an0 (ev_anL (ev_anI (ev_an (ev_sum (ev_scrTake (m := 1) (ev_var rfl r) rfl)))) ev_c (fun _ => by decide) fun _ _ => ⟨_, rfl⟩) (ev_an (ev_scrLen (ev_var rfl r))) fun _ _ => ⟨_, rfl⟩) (ev_an ev_c) fun _ _ => ⟨_, rfl⟩) fun v1 H1 e1 r1 => ?_
    refine q_for (ei_list (T := nI) (ev_scrTake (m := 63) (ev_var rfl (mo e1 r)) rfl)) fun H2 e2 => ⟨fun i σ' H' => ∃ sv y, σ' = [some v, some sv, y] ∧ AnI H' sv, ⟨v1, none, rfl, r1⟩, fun _ _ _ _ _ z => z, fun i d x σ' H' hd e3 z rd => ?_, fun σ' H' e3 z => ?_⟩
    · obtain ⟨sv, y, rfl, rs⟩ := z
      refine s_set (ev_anL (ev_anI (ev_an0 (ev_an0 (ev_anL (ev_var rfl rs) ev_c (fun _ => .inr ⟨by decide, by decide⟩) fun _ _ => ⟨_, rfl⟩) (ev_anL (ev_anI (ev_an (ev_var rfl rd))) ev_c (fun _ => by decide) fun _ _ => ⟨_, rfl⟩) fun _ _ => ⟨_, rfl⟩) (ev_an ev_c) fun _ _ => ⟨_, rfl⟩)) ev_c (fun _ => by decide) fun _ _ => ⟨_, rfl⟩) fun v4 H4 e4 r4 => ⟨e3.trans e4, v4, _, rfl, r4⟩
    · obtain ⟨sv, y, rfl, ⟨sd, rfl⟩⟩ := z
      have e03 := (e1.trans e2).trans e3
      have hc : EvX _ [some v, some (V.int sd), y] H' _ := ev_lc (S := nI) (n := 2) (vs := [2]) (t := tTest (tOp (rI0 fun i j => .bl (decide (j ≤ i))) (tCB rAbs (tCons (tVar 2) tNil)) (tOp (rI CPow fun i j => .int (i ^ j.toNat)) (tC (.int 10)) (tC (.int 18))))) (te := tCB rAbs (tCons (tVar 2) tNil)) (fun i : Int => decide (1000000000000000000 ≤ (if i < 0 then -i else i))) (fun i : Int => if i < 0 then -i else i) (ei_list (K := K) (T := nI) (ev_scrTake (K := K) (te := tVar 0) (k := 63) (m := 63) (ev_var rfl (mo e03 r)) rfl)) (by rw [List.length_take]; omega) (fun _ => rfl) (fun x d H4 e4 hd rd => et_test (ev_i0 (ev_abs (ev_var rfl rd)) (ev_i (z := V.int 1000000000000000000) ev_c ev_c ⟨by decide, by decide, by decide⟩ rfl) rfl)) fun x d H4 e4 hd rd _ => ev_abs (ev_var rfl rd)
      refine ⟨_, rfl, w_consC (w_cons1 (hc.go fun v4 H4 e4 r4 => ⟨by show 3 ≤ sizeLine; decide, fun a ha => ?_⟩))⟩
      obtain ⟨c, rfl, h4⟩ := ints_raw r4
      have ne : a ≠ c := fun e => by
        subst e
        rw [h4] at ha
        cases ha
      exact q _ _ ((e03.trans e4).trans (Ex.new ha)) ⟨a, c, rfl, sd, 0, _, ne, upd_same, Ex.new ha _ _ h4⟩
theorem ok_law (T : Txt K mg) : FnOk P w K mg base CX0 7 T.law.f T.law.fd ["_law_script"] (spLaw K) :=
  fn_ok T.law sc_law (fun vs H Q E ⟨a, ns, e, _⟩ => by rw [e]; rfl) fun cdv A outer s H vs Q E hr ⟨a, ns, e, hz, hs, q⟩ => by
    subst e
    refine ⟨_, (pss_cons (ps_set (i := 1) sc_law.nd rfl (.inl rfl) (pe_cl T.law_pool (ok_law_pool T) hr (by decide) (by rfl) (pa_cons (pv 0) pa_nil)))
    (pss_cons (ps_for PassesOwn.never rfl (pi_range1 (by rfl) T.n_range (pa_cons pe_int pa_nil)) (pg_name (i := 2) sc_law.nd rfl (.inl rfl))
      (pss_cons (ps_set (i := 3) sc_law.nd rfl (.inl rfl) (pe_cl T.law_size (ok_law_size T) hr (by decide) (by rfl) (pa_cons (pv 1) pa_nil)))
    (pss_cons (ps_set (i := 4) sc_law.nd rfl (.inl rfl) (pe_cl T.law_drawn (ok_law_drawn T) hr (by decide) (by rfl) (pa_cons (pv 1) (pa_cons (pv 3) pa_nil))))
    (pss_cons (ps_set (i := 5) sc_law.nd rfl (.inl rfl) (pe_cl T.kind (ok_kind T) hr (by decide) (by rfl) (pa_cons (pv 3) (pa_cons (pv 4) pa_nil))))
    (pss_cons (ps_if (PW.pt (pw_or (pt_not (pt_val (pe_callB (crK (K := K) (r := rIsi) call_isi) (by rfl) T.n_isinstance (by decide +kernel) (pa_cons (pv 5) (pa_cons (pe_bltn (v := .ty "str") (by rfl) T.n_str (by decide +kernel) rfl) pa_nil))))) (pw_or1 (pt_cmpR op_ne (pv 5) (pe_cl T.law_word (ok_law_word T) hr (by decide) (by rfl) (pa_cons (pv 3) (pa_cons (pv 4) pa_nil))) (nomark _))))) (pss_one (ps_ret pe_bl)) pss_nil)
    (pss_cons (ps_set (i := 6) sc_law.nd rfl (.inl rfl) (pe_callTy (crK (K := K) (r := rTupX) cr_tuple) (by rfl) T.n_tuple (by decide +kernel) (pa_cons (pe_cl T.law_mixed (ok_law_mixed T) hr (by decide) (by rfl) (pa_cons (pv 1) (pa_cons (pe_listRg rfl (by rfl) T.n_list (prg_1 (by rfl) T.n_range (pv 3))) pa_nil))) pa_nil)))
    (pss_cons (ps_if (pt_cmpR op_ne (pe_cl T.kind (ok_kind T) hr (by decide) (by rfl) (pa_cons (pv 3) (pa_cons (pe_cl T.renamed (ok_renamed T) hr (by decide) (by rfl) (pa_cons (pv 3) (pa_cons (pv 4) (pa_cons (pv 6) pa_nil)))) pa_nil))) (pv 5) (nomark _)) (pss_one (ps_ret pe_bl)) pss_nil)
    (pss_cons (ps_if (pt_cmpR op_ne (pe_cmpR (opK (K := K) (r := rEqD) (op_eqD hr.units)) (pe_cl T.turned (ok_turned T) hr (by decide) (by rfl) (pa_cons (pv 3) (pa_cons (pv 4) pa_nil))) (pv 4) (nomark _)) (pe_cmpR op_eq (pv 5) pe_str (nomark _)) (nomark _)) (pss_one (ps_ret pe_bl)) pss_nil)
    (pss_cons (ps_set (i := 7) sc_law.nd rfl (.inl rfl) (pe_cl T.apart (ok_apart T) hr (by decide) (by rfl) (pa_cons (pv 3) (pa_cons (pv 4) pa_nil))))
    (pss_cons (ps_set (i := 8) sc_law.nd rfl (.inl rfl) (pe_cl T.open_lot (ok_open_lot T) hr (by decide) (by rfl) (pa_cons (pv 3) (pa_cons (pv 4) pa_nil))))
    (pss_one (ps_if (PW.pt (pw_or (pt_cmpR op_ne (pe_cmpR op_notN (pv 7) pe_non (nomark _)) (pe_cmpR op_eq (pv 5) pe_str (nomark _)) (nomark _)) (pw_or1 (pt_cmpR op_ne (pe_and (pe_cmpR op_isN (pv 7) pe_non (nomark _)) (pe_one (pe_cmpR op_isN (pv 8) pe_non (nomark _)))) (pe_cmpR op_eq (pv 5) pe_str (nomark _)) (nomark _))))) (pss_one (ps_ret pe_bl)) pss_nil))))))))))))
    (pss_one (ps_ret (pe_and (pe_cmpR op_eq (pe_cl T.kind (ok_kind T) hr (by decide) (by rfl) (pa_cons pe_int (pa_cons (pe_tup pa_nil) pa_nil))) pe_str (nomark _)) (pe_one (pe_cmpR op_eq (pe_cl T.kind (ok_kind T) hr (by decide) (by rfl) (pa_cons pe_int (pa_cons (pe_tup (pa_cons (pe_tup pa_nil) pa_nil)) pa_nil))) pe_str (nomark _)))))))), ?_⟩
    refine q_set (ev_call (a := ns) hz (ea1 (ev_var rfl ⟨a, rfl, hs⟩))) fun v1 H1 e1 r1 => ?_
    obtain ⟨p, c, rfl, p1⟩ := r1
    refine Evl.q_forR1 (n := 8) (ea_int ev_c) (by decide) (fun i σ' H' => ∃ y2 y3 y4 y5 y6 y7 y8, σ' = [some (.ref a), some (.ref p), y2, y3, y4, y5, y6, y7, y8] ∧ PoolAt H' p c) (fun H2 e2 => ⟨_, _, _, _, _, _, _, rfl, p1.mo e2⟩) (fun i σ' H' hi z => ?_) fun σ' H' z => ?_
    · obtain ⟨y2, y3, y4, y5, y6, y7, y8, rfl, pp⟩ := z
      refine q_setW (w_call (a := ()) pp rfl trivial ea_nil fun v2 H2 e2 p2 r2 => ?_)
      obtain ⟨n, hn, r2⟩ := r2
      cases r2
      refine q_setW (w_call (a := n) p2 rfl hn (ea1 (ev_var (R := nI (n : Nat)) rfl rfl)) fun v3 H3 e3 p3 r3 => ?_)
      obtain ⟨t, ht, r3⟩ := r3
      refine q_set (ev_call (a := (n, t)) ⟨hn, ht⟩ (ea_cons (ev_var (R := nI (n : Nat)) rfl rfl) (ea1 (ev_var rfl r3)))) fun v4 H4 e4 r4 => ?_
      cases r4
      have p4 := p3.mo e4
      have r34 := mo e4 r3
      refine q_skip (Evl.et_or (a := false) (b := false) (Evl.et_not (a := true) (et_B (ev_isi (R := Is (.str (wordT t))) (ev_var rfl rfl) ev_c ty_str (by decide +kernel)))) fun _ => et_test (ev_ne (x := .str (wordT t)) (ev_var rfl rfl) (ev_call (a := (n, t)) ⟨hn.2, ht⟩ (ea_cons (ev_var (R := nI (n : Nat)) rfl rfl) (ea1 (ev_var rfl r34)))) rfl (by rw [decide_eq_true rfl]; rfl))) fun H5 e5 => ?_
      have p5 := p4.mo e5
      have r35 := mo e5 r34
      refine q_setW (w_cb1 (w_callE rfl (ev_rgl (ev_var (R := nI (n : Nat)) rfl rfl) (by omega) (by omega)) fun v6 H6 e6 r6 => ?_))
      obtain ⟨b, us, rfl, hB, pB⟩ := r6
      have lB := plen pB
      rw [rng_len] at lB
      refine w_call (a := us) (p5.mo e6) rfl (by omega) (ea1 (ev_k (R := Lst Is us) ⟨b, us, rfl, hB, prefl us⟩)) fun v7 H7 e7 p7 r7 => ?_
      obtain ⟨ws, pm, d, zs, rfl, hD, pD⟩ := r7
      cases pid pD
      obtain ⟨o, ho, pO⟩ := pperm pm (pmt (e7.t (p5.mo e6)) pB)
      refine w_tup (R := nI) (ds := o) ⟨d, ws, rfl, hD, pO⟩ fun v8 H8 e8 r8 => ?_
      have r38 := mo e8 (mw (p5.mo e6) e7 (mo e6 r35))
      have p8 := p7.mo e8
      refine q_skip (et_test (ev_ne (x := .str (wordT t)) (y := .str (wordT t)) ((ev_call2E (R := Tab) (fun t' => (n, t')) (ev_var (R := nI (n : Nat)) rfl rfl) (ev_call (a := (n, t, o)) ⟨hn, ht, ho⟩ (ea_cons (ev_var (R := nI (n : Nat)) rfl rfl) (ea_cons (ev_var rfl r38) (ea1 (ev_var rfl r8))))) (fun t' h => ⟨hn, h.1⟩) fun _ => rfl).imp fun H9 v9 z => ?_) (ev_var rfl rfl) rfl (by rw [decide_eq_true rfl]; rfl))) fun H9 e9 => ?_
      · obtain ⟨t', h, z⟩ := z
        have z' : v9 = .str (wordT t') := z
        rw [word_congr h.2.1 h.2.2] at z'
        exact z'
      have p9 := p8.mo e9
      have r39 := mo e9 r38
      refine q_skip (et_test (ev_ne (x := .bl (decide (V.str (wordT t) = V.str "outright"))) (y := .bl (decide (V.str (wordT t) = V.str "outright"))) (ev_op (R := ExR Tab fun t' => t' = t ↔ ¬ Dj t ∧ Ou t) (S := Tab t) (ev_call (a := (n, t)) ⟨hn, ht⟩ (ea_cons (ev_var (R := nI (n : Nat)) rfl rfl) (ea1 (ev_var rfl r39)))) (ev_var rfl r39) fun x y H10 _ h1 h2 Q' q' => ?_) (ev_eq (x := .str (wordT t)) (ev_var rfl rfl) ev_c rfl rfl) rfl (by rw [decide_eq_true rfl]; rfl))) fun H10 e10 => ?_
      · obtain ⟨t', hi', h1⟩ := h1
        refine ⟨tabD t', tabD t, dp_tab h1, dp_tab h2, tabD_shaped _, tabD_shaped _, q' _ H10 (Ex.refl _) (congrArg V.bl ?_)⟩
        rw [tabD_eqv, Bool.eq_iff_iff, word_out, decide_eq_true_iff]
        exact hi'
      have p10 := p9.mo e10
      have r310 := mo e10 r39
      refine q_set (ev_call (a := (n, t)) ⟨hn, ht⟩ (ea_cons (ev_var (R := nI (n : Nat)) rfl rfl) (ea1 (ev_var rfl r310)))) fun v11 H11 e11 r11 => ?_
      have r311 := mo e11 r310
      refine q_set (ev_call (a := (n, t)) ⟨hn, ht⟩ (ea_cons (ev_var (R := nI (n : Nat)) rfl rfl) (ea1 (ev_var rfl r311)))) fun v12 H12 e12 r12 => ?_
      have w1 := word_none t
      have w2 := word_out t
      refine s_skip (Evl.et_or (a := false) (b := false) (et_test (ev_ne (x := .bl (decide (V.str (wordT t) = V.str "none"))) (y := .bl (decide (V.str (wordT t) = V.str "none"))) (ev_notN (p := ¬ Dj t) (ev_var rfl (show NonIf (¬ Dj t) H12 v11 from r11)) ?_) (ev_eq (x := .str (wordT t)) (ev_var rfl rfl) ev_c rfl rfl) rfl (by rw [decide_eq_true rfl]; rfl))) fun _ => et_test (ev_ne (x := .bl (decide (V.str (wordT t) = V.str "outright"))) (y := .bl (decide (V.str (wordT t) = V.str "outright"))) ((ev_andV (a := !decide (V.str (wordT t) = V.str "none")) (b := ouB t) (ev_isN (p := ¬ Dj t) (ev_var rfl (show NonIf (¬ Dj t) H12 v11 from r11)) ?_) fun _ => ev_isN (p := Ou t) (ev_var rfl r12) ouB_iff).eqB ?_) (ev_eq (x := .str (wordT t)) (ev_var rfl rfl) ev_c rfl rfl) rfl (by rw [decide_eq_true rfl]; rfl))) fun H13 e13 => ?_
      · rw [w1]
        exact ⟨fun h k => k h, fun h => Classical.byContradiction h⟩
      · rw [Bool.not_eq_true', ← Bool.not_eq_true, w1]
      · rw [Bool.eq_iff_iff, Bool.and_eq_true, w2, ouB_iff, Bool.not_eq_true', ← Bool.not_eq_true, w1]
      · exact ⟨_, _, _, _, _, _, _, rfl, ((p10.mo e11).mo e12).mo e13⟩
    · obtain ⟨y2, y3, y4, y5, y6, y7, y8, rfl, pp⟩ := z
      refine s_ret (ev_andV (a := true) (b := true) (ev_eq (x := .str (wordT [])) (ev_call (a := (1, [])) ⟨⟨by decide, by decide⟩, tab_nil _⟩ (ea_cons ev_c (ea1 (ev_tup0 (T := Lot))))) ev_c rfl (by rw [word_nil]; exact decide_eq_true rfl)) fun _ => ev_eq (x := .str (wordT [[]])) (ev_call (a := (1, [[]])) ⟨⟨by decide, by decide⟩, tab_one _⟩ (ea_cons ev_c (ea1 (ev_tup1 (T := Lot) (d := []) ev_tup0)))) ev_c rfl (by rw [word_one]; exact decide_eq_true rfl)) fun v4 H4 e4 r4 => ?_
      cases r4
      exact q H4
end
end Rk
namespace Rk
open PySem PySem.Spec PyProof.Rows L2
/-! the head: what the top leaves -/
def h_is_integer : He.DefD := ⟨("is_integer", none), "is_integer", "is_integer", defArgs s_is_integer, defBody s_is_integer, defScope s_is_integer, [], []⟩
def h_is_within : He.DefD := ⟨("is_within", none), "is_within", "is_within", defArgs s_is_within, defBody s_is_within, defScope s_is_within, [], []⟩
def h_are_ascending : He.DefD := ⟨("are_ascending", none), "are_ascending", "are_ascending", defArgs s_are_ascending, defBody s_are_ascending, defScope s_are_ascending, [], []⟩
def h_is_order : He.DefD := ⟨("is_order", none), "is_order", "is_order", defArgs s_is_order, defBody s_is_order, defScope s_is_order, [], []⟩
def h_is_lot : He.DefD := ⟨("is_lot", none), "is_lot", "is_lot", defArgs s_is_lot, defBody s_is_lot, defScope s_is_lot, [], []⟩
def h_rest_of : He.DefD := ⟨("rest_of", none), "rest_of", "rest_of", defArgs s_rest_of, defBody s_rest_of, defScope s_rest_of, [], []⟩
def h_lots_of : He.DefD := ⟨("lots_of", none), "lots_of", "lots_of", defArgs s_lots_of, defBody s_lots_of, defScope s_lots_of, [], []⟩
def h_lot_by : He.DefD := ⟨("lot_by", none), "lot_by", "lot_by", defArgs s_lot_by, defBody s_lot_by, defScope s_lot_by, [], []⟩
def h_check_folk : He.DefD := ⟨("check_folk", none), "check_folk", "check_folk", defArgs s_check_folk, defBody s_check_folk, defScope s_check_folk, [], []⟩
def h_is_part : He.DefD := ⟨("is_part", none), "is_part", "is_part", defArgs s_is_part, defBody s_is_part, defScope s_is_part, [], []⟩
def h_is_table_there : He.DefD := ⟨("is_table_there", none), "is_table_there", "is_table_there", defArgs s_is_table_there, defBody s_is_table_there, defScope s_is_table_there, [], []⟩
def h_check_table : He.DefD := ⟨("check_table", none), "check_table", "check_table", defArgs s_check_table, defBody s_check_table, defScope s_check_table, [], []⟩
def h_bits_of : He.DefD := ⟨("bits_of", none), "bits_of", "bits_of", defArgs s_bits_of, defBody s_bits_of, defScope s_bits_of, [], []⟩
def h_all_of : He.DefD := ⟨("all_of", none), "all_of", "all_of", defArgs s_all_of, defBody s_all_of, defScope s_all_of, [], []⟩
def h_with_person : He.DefD := ⟨("with_person", none), "with_person", "with_person", defArgs s_with_person, defBody s_with_person, defScope s_with_person, [], []⟩
def h_less_person : He.DefD := ⟨("less_person", none), "less_person", "less_person", defArgs s_less_person, defBody s_less_person, defScope s_less_person, [], []⟩
def h_up_of : He.DefD := ⟨("up_of", none), "up_of", "up_of", defArgs s_up_of, defBody s_up_of, defScope s_up_of, [], []⟩
def h_table_from : He.DefD := ⟨("table_from", none), "table_from", "table_from", defArgs s_table_from, defBody s_table_from, defScope s_table_from, [], []⟩
def h_rests_of : He.DefD := ⟨("rests_of", none), "rests_of", "rests_of", defArgs s_rests_of, defBody s_rests_of, defScope s_rests_of, [], []⟩
def h_turned_of : He.DefD := ⟨("turned_of", none), "turned_of", "turned_of", defArgs s_turned_of, defBody s_turned_of, defScope s_turned_of, [], []⟩
def h_is_round : He.DefD := ⟨("is_round", none), "is_round", "is_round", defArgs s_is_round, defBody s_is_round, defScope s_is_round, [], []⟩
def h_kind_of : He.DefD := ⟨("kind_of", none), "kind_of", "kind_of", defArgs s_kind_of, defBody s_kind_of, defScope s_kind_of, [], []⟩
def h_carries_there : He.DefD := ⟨("carries_there", none), "carries_there", "carries_there", defArgs s_carries_there, defBody s_carries_there, defScope s_carries_there, [], []⟩
def h_kind : He.DefD := ⟨("kind", none), "kind", "kind", defArgs s_kind, defBody s_kind, defScope s_kind, [], []⟩
def h_apart : He.DefD := ⟨("apart", none), "apart", "apart", defArgs s_apart, defBody s_apart, defScope s_apart, [], []⟩
def h_open_lot : He.DefD := ⟨("open_lot", none), "open_lot", "open_lot", defArgs s_open_lot, defBody s_open_lot, defScope s_open_lot, [], []⟩
def h_turned : He.DefD := ⟨("turned", none), "turned", "turned", defArgs s_turned, defBody s_turned, defScope s_turned, [], []⟩
def h_renamed_by : He.DefD := ⟨("renamed_by", none), "renamed_by", "renamed_by", defArgs s_renamed_by, defBody s_renamed_by, defScope s_renamed_by, [], []⟩
def h_renamed : He.DefD := ⟨("renamed", none), "renamed", "renamed", defArgs s_renamed, defBody s_renamed, defScope s_renamed, [], []⟩
def h_law_pool : He.DefD := ⟨("_law_pool", none), "_law_pool", "_law_pool", defArgs s_law_pool, defBody s_law_pool, defScope s_law_pool, [], []⟩
def h_law_draw : He.DefD := ⟨("_law_draw", none), "_law_draw", "_law_draw", defArgs s_law_draw, defBody s_law_draw, defScope s_law_draw, [], []⟩
def h_law_mixed : He.DefD := ⟨("_law_mixed", none), "_law_mixed", "_law_mixed", defArgs s_law_mixed, defBody s_law_mixed, defScope s_law_mixed, [], []⟩
def h_law_lots : He.DefD := ⟨("_law_lots", none), "_law_lots", "_law_lots", defArgs s_law_lots, defBody s_law_lots, defScope s_law_lots, [], []⟩
def h_law_rest : He.DefD := ⟨("_law_rest", none), "_law_rest", "_law_rest", defArgs s_law_rest, defBody s_law_rest, defScope s_law_rest, [], []⟩
def h_law_part : He.DefD := ⟨("_law_part", none), "_law_part", "_law_part", defArgs s_law_part, defBody s_law_part, defScope s_law_part, [], []⟩
def h_law_meets : He.DefD := ⟨("_law_meets", none), "_law_meets", "_law_meets", defArgs s_law_meets, defBody s_law_meets, defScope s_law_meets, [], []⟩
def h_law_least : He.DefD := ⟨("_law_least", none), "_law_least", "_law_least", defArgs s_law_least, defBody s_law_least, defScope s_law_least, [], []⟩
def h_law_carries : He.DefD := ⟨("_law_carries", none), "_law_carries", "_law_carries", defArgs s_law_carries, defBody s_law_carries, defScope s_law_carries, [], []⟩
def h_law_all_carry : He.DefD := ⟨("_law_all_carry", none), "_law_all_carry", "_law_all_carry", defArgs s_law_all_carry, defBody s_law_all_carry, defScope s_law_all_carry, [], []⟩
def h_law_word : He.DefD := ⟨("_law_word", none), "_law_word", "_law_word", defArgs s_law_word, defBody s_law_word, defScope s_law_word, [], []⟩
def h_law_drawn_lot : He.DefD := ⟨("_law_drawn_lot", none), "_law_drawn_lot", "_law_drawn_lot", defArgs s_law_drawn_lot, defBody s_law_drawn_lot, defScope s_law_drawn_lot, [], []⟩
def h_law_any : He.DefD := ⟨("_law_any", none), "_law_any", "_law_any", defArgs s_law_any, defBody s_law_any, defScope s_law_any, [], []⟩
def h_law_round : He.DefD := ⟨("_law_round", none), "_law_round", "_law_round", defArgs s_law_round, defBody s_law_round, defScope s_law_round, [], []⟩
def h_law_full : He.DefD := ⟨("_law_full", none), "_law_full", "_law_full", defArgs s_law_full, defBody s_law_full, defScope s_law_full, [], []⟩
def h_law_drawn : He.DefD := ⟨("_law_drawn", none), "_law_drawn", "_law_drawn", defArgs s_law_drawn, defBody s_law_drawn, defScope s_law_drawn, [], []⟩
def h_law_size : He.DefD := ⟨("_law_size", none), "_law_size", "_law_size", defArgs s_law_size, defBody s_law_size, defScope s_law_size, [], []⟩
def h_law : He.DefD := ⟨("law", none), "law", "law", defArgs s_law, defBody s_law, defScope s_law, [], []⟩
def fnA : List He.DefD := [h_is_integer, h_is_within, h_are_ascending, h_is_order, h_is_lot, h_rest_of, h_lots_of, h_lot_by, h_check_folk, h_is_part, h_is_table_there, h_check_table, h_bits_of, h_all_of, h_with_person, h_less_person, h_up_of, h_table_from, h_rests_of, h_turned_of, h_is_round, h_kind_of, h_carries_there, h_kind]
def fnB : List He.DefD := [h_apart, h_open_lot, h_turned, h_renamed_by, h_renamed, h_law_pool, h_law_draw, h_law_mixed, h_law_lots, h_law_rest, h_law_part, h_law_meets, h_law_least, h_law_carries, h_law_all_carry, h_law_word, h_law_drawn_lot, h_law_any, h_law_round, h_law_full, h_law_drawn, h_law_size, h_law]
def fn : List He.DefD := fnA ++ fnB
def faA : List He.Fa := [.glo "is_integer", .glo "is_within", .glo "are_ascending", .glo "is_order", .glo "is_lot", .glo "rest_of", .glo "lots_of", .glo "lot_by", .glo "check_folk", .glo "is_part", .glo "is_table_there", .glo "check_table", .glo "bits_of", .glo "all_of", .glo "with_person", .glo "less_person", .glo "up_of", .glo "table_from", .glo "rests_of", .glo "turned_of", .glo "is_round", .glo "kind_of", .glo "carries_there", .glo "kind"]
def faB : List He.Fa := [.glo "apart", .glo "open_lot", .glo "turned", .glo "renamed_by", .glo "renamed", .glo "_law_pool", .glo "_law_draw", .glo "_law_mixed", .glo "_law_lots", .glo "_law_rest", .glo "_law_part", .glo "_law_meets", .glo "_law_least", .glo "_law_carries", .glo "_law_all_carry", .glo "_law_word", .glo "_law_drawn_lot", .glo "_law_any", .glo "_law_round", .glo "_law_full", .glo "_law_drawn", .glo "_law_size", .glo "law"]
def faC : List He.Fa := [.free "abs", .free "all", .free "any", .free "bool", .free "enumerate", .free "int", .free "isinstance", .free "len", .free "list", .free "range", .free "set", .free "sorted", .free "str", .free "sum", .free "tuple", .int "MOST_FOLK" 6, .glo "LOWS"]
def fa : List He.Fa := faA ++ (faB ++ faC)
def lowsD : List He.Dv := [.int 6148914691236517205, .int 3689348814741910323, .int 1085102592571150095, .int 71777214294589695, .int 281470681808895, .int 4294967295]
/-- the facts, and that LOWS is the tuple of these ints -/
def obsM (g : Addr → Option Obj) : He.AlD × Bool := (He.obsD fa fn (He.frG g (He.asD g 4)), He.tupB (He.frG g (He.asD g 4)) "LOWS" lowsD)
def hk : PySem.W.Hook where
  α := He.AlD × Bool
  obs := fun s => obsM s.heap.get?
  val := fun _ => (He.valD fn, true)
  says := fun _ h => ∃ K : PySem.W.Frag, K.In h ∧ (He.obsD fa fn K, He.tupB K "LOWS" lowsD) = (He.valD fn, true)
  of := fun _ _ e => ⟨_, He.frG_in, e⟩
  keeps := fun _ _ _ ⟨K, hK, c⟩ k => ⟨K, PySem.W.Frag.In.keeps hK k, c⟩
def ob (s : PySem.W.SharedT) : He.AlD × Bool := obsM (HandSHeadRun.getT s)
theorem ob_eq (s : PySem.W.SharedT) : ob s = hk.obs s.abs := congrArg obsM (funext fun a => HandSHeadRun.getT_eq s a)
abbrev Rw0 : PySem.W.OpenRow := PySem.W.OpenLaw.row PySem.Challenge.rw_roundowned_k56_whole_words_for_tables
def looseA : List Str := ["HouseError", "NoOrder", "NoFolk", "NoTable", "is_integer", "is_within", "are_ascending", "is_order", "MOST_FOLK", "is_lot", "rest_of", "lots_of", "LOWS", "lot_by", "check_folk", "is_part", "is_table_there", "check_table", "bits_of", "all_of", "with_person", "less_person", "up_of", "table_from", "rests_of", "turned_of", "is_round", "kind_of", "carries_there", "kind"]
def looseB : List Str := ["apart", "open_lot", "turned", "renamed_by", "renamed", "_law_pool", "_law_draw", "_law_mixed", "_law_lots", "_law_rest", "_law_part", "_law_meets", "_law_least", "_law_carries", "_law_all_carry", "_law_word", "_law_drawn_lot", "_law_any", "_law_round", "_law_full", "_law_drawn", "_law_size"]
theorem run (w : World) : HandSHeadRun.RunEq Rw0 (PySem.W.view Rw0.prog [59]) hk ob 20000 (looseA ++ looseB) w := by
  intro os
  kernel_rfl
end Rk
/-! the law's promise over the head; the claim -/
namespace Rk
open PySem PySem.Spec PyProof.Rows L2
section
variable {K : PySem.W.Frag} {h : Heap} {mg : Str → Option Value}
theorem fat {x : Str} {st : Stmt} {ps : List Str} {i j : Nat} (X : K.In h) (G : h.Ns mainGlobals mg) (c : He.SaysD fa fn K) (hd : fn[i]? = some ⟨(x, none), x, x, defArgs st, defBody st, defScope st, [], []⟩) (hf : fa[j]? = some (.glo x))
    (hb : ∀ (kV doc pm : Value) (an : Option Addr) (cdv ct : Value) (us : List Value), us.length = ps.length → bindArgs (PySem.W.fnOf x x (defArgs st) (defBody st) (defScope st) .none kV doc pm an cdv ct) ⟨us, []⟩ = pure (ps.zip us)) : ∃ A : FnAt K mg x st ps, A.f = He.ga K x ∧ ∀ (s : Shared) (us : List Value), us.length = ps.length → BindsTo s A.fd ⟨us, []⟩ (ps.zip us) := by
  obtain ⟨fd, F⟩ := c.def_ i hd
  exact ⟨⟨_, fd, F, FunD.bindsN F hb, He.glo_ok X G (c.fact j hf)⟩, rfl, fun s us hl => FunD.bindsA F hb s us hl⟩
theorem facts {P : Program} {w : World} {f : Addr} (X : K.In h) (G : h.Ns mainGlobals mg) (hfa : mg ("law" : Str) = some (.ref f)) (c : He.SaysD fa fn K) (hl : He.tupB K "LOWS" lowsD = true) :
    ∃ fd : FuncData, (∀ (s : Shared) (v : Value), BindsTo s fd ⟨[v], []⟩ [("_law_script", v)]) ∧ ∀ base : Heap, K.In base → base.Ns mainGlobals mg → FnOk P w K mg base CX0 7 f fd ["_law_script"] (spLaw K) := by
  obtain ⟨a_is_integer, _⟩ := fat (st := s_is_integer) (ps := ["thing"]) (i := 0) (j := 0) X G c rfl rfl fun _ _ _ _ _ _ us hl => match us, hl with | [_], _ => rfl
  obtain ⟨a_is_within, _⟩ := fat (st := s_is_within) (ps := ["thing", "least", "most"]) (i := 1) (j := 1) X G c rfl rfl fun _ _ _ _ _ _ us hl => match us, hl with | [_, _, _], _ => rfl
  obtain ⟨a_are_ascending, _⟩ := fat (st := s_are_ascending) (ps := ["things"]) (i := 2) (j := 2) X G c rfl rfl fun _ _ _ _ _ _ us hl => match us, hl with | [_], _ => rfl
  obtain ⟨a_is_order, _⟩ := fat (st := s_is_order) (ps := ["thing", "many"]) (i := 3) (j := 3) X G c rfl rfl fun _ _ _ _ _ _ us hl => match us, hl with | [_, _], _ => rfl
  obtain ⟨a_is_lot, _⟩ := fat (st := s_is_lot) (ps := ["folk", "thing"]) (i := 4) (j := 4) X G c rfl rfl fun _ _ _ _ _ _ us hl => match us, hl with | [_, _], _ => rfl
  obtain ⟨a_rest_of, _⟩ := fat (st := s_rest_of) (ps := ["folk", "lot"]) (i := 5) (j := 5) X G c rfl rfl fun _ _ _ _ _ _ us hl => match us, hl with | [_, _], _ => rfl
  obtain ⟨a_lots_of, _⟩ := fat (st := s_lots_of) (ps := ["folk"]) (i := 6) (j := 6) X G c rfl rfl fun _ _ _ _ _ _ us hl => match us, hl with | [_], _ => rfl
  obtain ⟨a_lot_by, _⟩ := fat (st := s_lot_by) (ps := ["number"]) (i := 7) (j := 7) X G c rfl rfl fun _ _ _ _ _ _ us hl => match us, hl with | [_], _ => rfl
  obtain ⟨a_check_folk, _⟩ := fat (st := s_check_folk) (ps := ["thing"]) (i := 8) (j := 8) X G c rfl rfl fun _ _ _ _ _ _ us hl => match us, hl with | [_], _ => rfl
  obtain ⟨a_is_part, _⟩ := fat (st := s_is_part) (ps := ["lot", "other"]) (i := 9) (j := 9) X G c rfl rfl fun _ _ _ _ _ _ us hl => match us, hl with | [_, _], _ => rfl
  obtain ⟨a_is_table_there, _⟩ := fat (st := s_is_table_there) (ps := ["folk", "thing"]) (i := 10) (j := 10) X G c rfl rfl fun _ _ _ _ _ _ us hl => match us, hl with | [_, _], _ => rfl
  obtain ⟨a_check_table, _⟩ := fat (st := s_check_table) (ps := ["folk", "thing"]) (i := 11) (j := 11) X G c rfl rfl fun _ _ _ _ _ _ us hl => match us, hl with | [_, _], _ => rfl
  obtain ⟨a_bits_of, _⟩ := fat (st := s_bits_of) (ps := ["lot"]) (i := 12) (j := 12) X G c rfl rfl fun _ _ _ _ _ _ us hl => match us, hl with | [_], _ => rfl
  obtain ⟨a_all_of, _⟩ := fat (st := s_all_of) (ps := ["folk"]) (i := 13) (j := 13) X G c rfl rfl fun _ _ _ _ _ _ us hl => match us, hl with | [_], _ => rfl
  obtain ⟨a_with_person, _⟩ := fat (st := s_with_person) (ps := ["up", "person"]) (i := 14) (j := 14) X G c rfl rfl fun _ _ _ _ _ _ us hl => match us, hl with | [_, _], _ => rfl
  obtain ⟨a_less_person, _⟩ := fat (st := s_less_person) (ps := ["up", "person"]) (i := 15) (j := 15) X G c rfl rfl fun _ _ _ _ _ _ us hl => match us, hl with | [_, _], _ => rfl
  obtain ⟨a_up_of, _⟩ := fat (st := s_up_of) (ps := ["folk", "table"]) (i := 16) (j := 16) X G c rfl rfl fun _ _ _ _ _ _ us hl => match us, hl with | [_, _], _ => rfl
  obtain ⟨a_table_from, _⟩ := fat (st := s_table_from) (ps := ["folk", "up"]) (i := 17) (j := 17) X G c rfl rfl fun _ _ _ _ _ _ us hl => match us, hl with | [_, _], _ => rfl
  obtain ⟨a_rests_of, _⟩ := fat (st := s_rests_of) (ps := ["folk", "up"]) (i := 18) (j := 18) X G c rfl rfl fun _ _ _ _ _ _ us hl => match us, hl with | [_, _], _ => rfl
  obtain ⟨a_turned_of, _⟩ := fat (st := s_turned_of) (ps := ["folk", "up"]) (i := 19) (j := 19) X G c rfl rfl fun _ _ _ _ _ _ us hl => match us, hl with | [_, _], _ => rfl
  obtain ⟨a_is_round, _⟩ := fat (st := s_is_round) (ps := ["folk", "up"]) (i := 20) (j := 20) X G c rfl rfl fun _ _ _ _ _ _ us hl => match us, hl with | [_, _], _ => rfl
  obtain ⟨a_kind_of, _⟩ := fat (st := s_kind_of) (ps := ["folk", "table"]) (i := 21) (j := 21) X G c rfl rfl fun _ _ _ _ _ _ us hl => match us, hl with | [_, _], _ => rfl
  obtain ⟨a_carries_there, _⟩ := fat (st := s_carries_there) (ps := ["table", "lot"]) (i := 22) (j := 22) X G c rfl rfl fun _ _ _ _ _ _ us hl => match us, hl with | [_, _], _ => rfl
  obtain ⟨a_kind, _⟩ := fat (st := s_kind) (ps := ["folk", "table"]) (i := 23) (j := 23) X G c rfl rfl fun _ _ _ _ _ _ us hl => match us, hl with | [_, _], _ => rfl
  obtain ⟨a_apart, _⟩ := fat (st := s_apart) (ps := ["folk", "table"]) (i := 24) (j := 24) X G c rfl rfl fun _ _ _ _ _ _ us hl => match us, hl with | [_, _], _ => rfl
  obtain ⟨a_open_lot, _⟩ := fat (st := s_open_lot) (ps := ["folk", "table"]) (i := 25) (j := 25) X G c rfl rfl fun _ _ _ _ _ _ us hl => match us, hl with | [_, _], _ => rfl
  obtain ⟨a_turned, _⟩ := fat (st := s_turned) (ps := ["folk", "table"]) (i := 26) (j := 26) X G c rfl rfl fun _ _ _ _ _ _ us hl => match us, hl with | [_, _], _ => rfl
  obtain ⟨a_renamed_by, _⟩ := fat (st := s_renamed_by) (ps := ["table", "order"]) (i := 27) (j := 27) X G c rfl rfl fun _ _ _ _ _ _ us hl => match us, hl with | [_, _], _ => rfl
  obtain ⟨a_renamed, _⟩ := fat (st := s_renamed) (ps := ["folk", "table", "order"]) (i := 28) (j := 28) X G c rfl rfl fun _ _ _ _ _ _ us hl => match us, hl with | [_, _, _], _ => rfl
  obtain ⟨a_law_pool, _⟩ := fat (st := s_law_pool) (ps := ["_law_script"]) (i := 29) (j := 29) X G c rfl rfl fun _ _ _ _ _ _ us hl => match us, hl with | [_], _ => rfl
  obtain ⟨a_law_draw, _⟩ := fat (st := s_law_draw) (ps := ["_law_pool_here", "_law_many"]) (i := 30) (j := 30) X G c rfl rfl fun _ _ _ _ _ _ us hl => match us, hl with | [_, _], _ => rfl
  obtain ⟨a_law_mixed, _⟩ := fat (st := s_law_mixed) (ps := ["_law_pool_here", "_law_things"]) (i := 31) (j := 31) X G c rfl rfl fun _ _ _ _ _ _ us hl => match us, hl with | [_, _], _ => rfl
  obtain ⟨a_law_lots, _⟩ := fat (st := s_law_lots) (ps := ["_law_folk"]) (i := 32) (j := 32) X G c rfl rfl fun _ _ _ _ _ _ us hl => match us, hl with | [_], _ => rfl
  obtain ⟨a_law_rest, _⟩ := fat (st := s_law_rest) (ps := ["_law_folk", "_law_lot"]) (i := 33) (j := 33) X G c rfl rfl fun _ _ _ _ _ _ us hl => match us, hl with | [_, _], _ => rfl
  obtain ⟨a_law_part, _⟩ := fat (st := s_law_part) (ps := ["_law_lot", "_law_other"]) (i := 34) (j := 34) X G c rfl rfl fun _ _ _ _ _ _ us hl => match us, hl with | [_, _], _ => rfl
  obtain ⟨a_law_meets, _⟩ := fat (st := s_law_meets) (ps := ["_law_lot", "_law_other"]) (i := 35) (j := 35) X G c rfl rfl fun _ _ _ _ _ _ us hl => match us, hl with | [_, _], _ => rfl
  obtain ⟨a_law_least, _⟩ := fat (st := s_law_least) (ps := ["_law_lots_here"]) (i := 36) (j := 36) X G c rfl rfl fun _ _ _ _ _ _ us hl => match us, hl with | [_], _ => rfl
  obtain ⟨a_law_carries, _⟩ := fat (st := s_law_carries) (ps := ["_law_known", "_law_lot"]) (i := 37) (j := 37) X G c rfl rfl fun _ _ _ _ _ _ us hl => match us, hl with | [_, _], _ => rfl
  obtain ⟨a_law_all_carry, _⟩ := fat (st := s_law_all_carry) (ps := ["_law_folk", "_law_known"]) (i := 38) (j := 38) X G c rfl rfl fun _ _ _ _ _ _ us hl => match us, hl with | [_, _], _ => rfl
  obtain ⟨a_law_word, _⟩ := fat (st := s_law_word) (ps := ["_law_folk", "_law_known"]) (i := 39) (j := 39) X G c rfl rfl fun _ _ _ _ _ _ us hl => match us, hl with | [_, _], _ => rfl
  obtain ⟨a_law_drawn_lot, _⟩ := fat (st := s_law_drawn_lot) (ps := ["_law_pool_here", "_law_folk"]) (i := 40) (j := 40) X G c rfl rfl fun _ _ _ _ _ _ us hl => match us, hl with | [_, _], _ => rfl
  obtain ⟨a_law_any, _⟩ := fat (st := s_law_any) (ps := ["_law_pool_here", "_law_folk"]) (i := 41) (j := 41) X G c rfl rfl fun _ _ _ _ _ _ us hl => match us, hl with | [_, _], _ => rfl
  obtain ⟨a_law_round, _⟩ := fat (st := s_law_round) (ps := ["_law_pool_here", "_law_folk"]) (i := 42) (j := 42) X G c rfl rfl fun _ _ _ _ _ _ us hl => match us, hl with | [_, _], _ => rfl
  obtain ⟨a_law_full, _⟩ := fat (st := s_law_full) (ps := ["_law_pool_here", "_law_folk"]) (i := 43) (j := 43) X G c rfl rfl fun _ _ _ _ _ _ us hl => match us, hl with | [_, _], _ => rfl
  obtain ⟨a_law_drawn, _⟩ := fat (st := s_law_drawn) (ps := ["_law_pool_here", "_law_folk"]) (i := 44) (j := 44) X G c rfl rfl fun _ _ _ _ _ _ us hl => match us, hl with | [_, _], _ => rfl
  obtain ⟨a_law_size, _⟩ := fat (st := s_law_size) (ps := ["_law_pool_here"]) (i := 45) (j := 45) X G c rfl rfl fun _ _ _ _ _ _ us hl => match us, hl with | [_], _ => rfl
  obtain ⟨a_law, hf, hb⟩ := fat (st := s_law) (ps := ["_law_script"]) (i := 46) (j := 46) X G c rfl rfl fun _ _ _ _ _ _ us hl => match us, hl with | [_], _ => rfl
  obtain ⟨tM, gM⟩ := He.int_ok X G (c.fact 62 (f := .int "MOST_FOLK" 6) rfl)
  have tL : ∀ H : Hp, SqT K H (He.ga K "LOWS") (lows.map V.int) := fun H => He.tupB_ok hl H
  let T : Txt K mg := ⟨a_is_integer, a_is_within, a_are_ascending, a_is_order, a_is_lot, a_rest_of, a_lots_of, a_lot_by, a_check_folk, a_is_part, a_is_table_there, a_check_table, a_bits_of, a_all_of, a_with_person, a_less_person, a_up_of, a_table_from, a_rests_of, a_turned_of, a_is_round, a_kind_of, a_carries_there, a_kind, a_apart, a_open_lot, a_turned, a_renamed_by, a_renamed, a_law_pool, a_law_draw, a_law_mixed, a_law_lots, a_law_rest, a_law_part, a_law_meets, a_law_least, a_law_carries, a_law_all_carry, a_law_word, a_law_drawn_lot, a_law_any, a_law_round, a_law_full, a_law_drawn, a_law_size, a_law,
    He.free_ok X G (c.fact 47 (f := .free "abs") rfl), He.free_ok X G (c.fact 48 (f := .free "all") rfl), He.free_ok X G (c.fact 49 (f := .free "any") rfl), He.free_ok X G (c.fact 50 (f := .free "bool") rfl), He.free_ok X G (c.fact 51 (f := .free "enumerate") rfl), He.free_ok X G (c.fact 52 (f := .free "int") rfl), He.free_ok X G (c.fact 53 (f := .free "isinstance") rfl), He.free_ok X G (c.fact 54 (f := .free "len") rfl), He.free_ok X G (c.fact 55 (f := .free "list") rfl), He.free_ok X G (c.fact 56 (f := .free "range") rfl), He.free_ok X G (c.fact 57 (f := .free "set") rfl), He.free_ok X G (c.fact 58 (f := .free "sorted") rfl), He.free_ok X G (c.fact 59 (f := .free "str") rfl), He.free_ok X G (c.fact 60 (f := .free "sum") rfl), He.free_ok X G (c.fact 61 (f := .free "tuple") rfl),
    tM, gM, _, He.glo_ok X G (c.fact 63 (f := .glo "LOWS") rfl), tL⟩
  have e := hfa.symm.trans a_law.g
  cases e
  exact ⟨a_law.fd, fun s v => hb s [v] rfl, fun base _ _ => ok_law T⟩
end
end Rk
open PySem PySem.W PySem.Calls PyProof.Rows
theorem PySem.Challenge.cw_roundowned_k56_whole_words_for_tables_holds : PySem.Challenge.rw_roundowned_k56_whole_words_for_tables.Holds := by
  w_on; o_law
  refine HandSHeadRun.head_any (r := Rk.Rw0) (q := view Rk.Rw0.prog [59]) (H := Rk.hk) (ob := Rk.ob) (M := 20000) (loose := Rk.looseA ++ Rk.looseB) (d := HandSHeadRun.topDef Rk.Rw0.prog 59) (kwd := []) Rk.ob_eq
    (by kernel_rfl) (fun s => by kernel_rfl) Rk.run (by kernel_rfl) (by kernel_rfl) (by kernel_rfl) (by rfl) (by first | assumption | decide +kernel) (by decide +kernel) ⟨rfl, rfl, rfl, rfl, rfl, by decide +kernel⟩ ?hw ?hc
  case hw => w_witness2
  case hc =>
    refine L2.walk_ofE (n := 63) (k := 7) (x := "_law_script") (CX := L2.CX0) rfl (by decide) (by kernel_rfl) ⟨rfl, by decide, by decide⟩ ?F (fun _ _ _ _ z => z)
    intro w mg fa h Y G hmg0
    obtain ⟨K, KX, c⟩ := Y
    have hmg : mg ("law" : PySem.Str) = some (.ref fa) := by
      have e : (HandSHeadRun.topDef Rk.Rw0.prog 59).name = ("law" : PySem.Str) := by kernel_rfl
      rw [← e]
      exact hmg0
    obtain ⟨fd, hb, hF⟩ := Rk.facts (w := w) KX G hmg (congrArg Prod.fst c) (congrArg Prod.snd c)
    exact ⟨K, fd, Rk.spLaw K, KX, hb, fun H a ns hl _ hS => ⟨a, ns, rfl, hl, hS, fun _ => rfl⟩, hF⟩
