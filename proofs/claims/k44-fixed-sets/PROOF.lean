import PyProof.Rows.All
import Wide.All
import OpenK.AllK
import Wide.FinOn
import HandS.ForMost
import HandS.SortInts
import HandS.TupSets
import HandS.IsInst
import HandS.Conv
import HandS.Deep
import HandS.TupAny
import PySem.Challenge.RW_echowords_k44_whole_fixed_sets
set_option Elab.async false
set_option linter.all false
set_option maxRecDepth 100000
set_option maxHeartbeats 4000000
/-! The framework: what a reading evaluates to, over a heap that only grows. -/
namespace Fs
open PySem PySem.Spec PyProof.Rows L2

/-! ### heaps -/
theorem same_new {H : Hp} {p : Addr} {o : HO} (h : H p = none) : Same H (upd H p o) := fun b x e => by
  rw [upd_ne (ne_of_none e h)]
  exact e
theorem same_mut {H H' : Hp} {p : Addr} {o : HO} (e : Same H H') (h : H p = none) : Same H (upd H' p o) := fun a u ha => by
  rw [upd_ne (ne_of_none ha h)]
  exact e a u ha
theorem le_line {n : Nat} (h : n ≤ 10000000) : n ≤ sizeLine := by rw [sizeLine_eq]; omega
theorem lt_line {n : Nat} (h : n ≤ 10000000) : n < sizeLine := by rw [sizeLine_eq]; omega

/-! ### properties of a value and a heap that stay while the heap grows -/
abbrev VP := V → Hp → Prop
class Mono (P : VP) : Prop where
  up : ∀ {v : V} {H H' : Hp}, Same H H' → P v H → P v H'
def Is (x : V) : VP := fun v _ => v = x
instance {x : V} : Mono (Is x) := ⟨fun _ h => h⟩
/-- a tuple of ints -/
def TupOf (ns : List Int) : VP := fun v H => ∃ t, v = .ref t ∧ H t = some (.tup (ns.map V.int))
instance {ns : List Int} : Mono (TupOf ns) := ⟨fun s ⟨t, e, h⟩ => ⟨t, e, s _ _ h⟩⟩
/-- items, one by one -/
inductive All2 {α : Type} (R : α → VP) (H : Hp) : List α → List V → Prop
  | nil : All2 R H [] []
  | cons {a : α} {as : List α} {v : V} {vs : List V} : R a v H → All2 R H as vs → All2 R H (a :: as) (v :: vs)
/-- a list of such items -/
def SeqOf {α : Type} (R : α → VP) (as : List α) : VP := fun v H => ∃ t vs, v = .ref t ∧ H t = some (.lst vs) ∧ All2 R H as vs
section
variable {α β : Type} {R : α → VP} {H H' : Hp} {as bs : List α} {vs ws : List V}
theorem All2.up [∀ a, Mono (R a)] (s : Same H H') (h : All2 R H as vs) : All2 R H' as vs := by
  induction h with
  | nil => exact .nil
  | cons r _ ih => exact .cons (Mono.up s r) ih
theorem All2.length (h : All2 R H as vs) : vs.length = as.length := by
  induction h with
  | nil => rfl
  | cons _ _ ih => rw [List.length_cons, List.length_cons, ih]
theorem All2.append (h : All2 R H as vs) (k : All2 R H bs ws) : All2 R H (as ++ bs) (vs ++ ws) := by
  induction h with
  | nil => exact k
  | cons r _ ih => exact .cons r ih
theorem All2.one {a : α} {v : V} (h : R a v H) : All2 R H [a] [v] := .cons h .nil
theorem All2.get (h : All2 R H as vs) : ∀ {i : Nat} {v : V}, vs[i]? = some v → ∃ a, as[i]? = some a ∧ R a v H := by
  induction h with
  | nil => intro i v e; simp at e
  | cons r _ ih =>
    intro i v e
    cases i with
    | zero => simp at e; subst e; exact ⟨_, rfl, r⟩
    | succ i => simpa using ih (by simpa using e)
theorem All2.get' (h : All2 R H as vs) : ∀ {i : Nat} {a : α}, as[i]? = some a → ∃ v, vs[i]? = some v ∧ R a v H := by
  induction h with
  | nil => intro i v e; simp at e
  | cons r _ ih =>
    intro i v e
    cases i with
    | zero => simp at e; subst e; exact ⟨_, rfl, r⟩
    | succ i => simpa using ih (by simpa using e)
instance [∀ a, Mono (R a)] : Mono (SeqOf R as) := ⟨fun s ⟨t, vs, e, h, r⟩ => ⟨t, vs, e, s _ _ h, r.up s⟩⟩
end
def IntI (n : Int) : VP := Is (.int n)
instance {n : Int} : Mono (IntI n) := ⟨fun _ h => h⟩
/-- a list of ints, a list of tuples of ints -/
abbrev LstOf (ns : List Int) : VP := SeqOf IntI ns
abbrev LotOf (ts : List (List Int)) : VP := SeqOf TupOf ts
theorem all2_ints {H : Hp} : ∀ {ns : List Int} {vs : List V}, All2 IntI H ns vs → vs = ns.map V.int
  | [], _, .nil => rfl
  | n :: ns, _, .cons r t => by
    cases (show _ = V.int n from r)
    rw [all2_ints t]
    rfl
theorem ints_all2 {H : Hp} : ∀ (ns : List Int), All2 IntI H ns (ns.map V.int)
  | [] => .nil
  | n :: ns => .cons rfl (ints_all2 ns)
theorem LstOf.get {ns : List Int} {v : V} {H : Hp} (h : LstOf ns v H) : ∃ t, v = .ref t ∧ H t = some (.lst (ns.map V.int)) := by
  obtain ⟨t, vs, e, h, r⟩ := h
  rw [all2_ints r] at h
  exact ⟨t, e, h⟩
theorem LstOf.mk {ns : List Int} {t : Addr} {H : Hp} (h : H t = some (.lst (ns.map V.int))) : LstOf ns (.ref t) H := ⟨t, _, rfl, h, ints_all2 ns⟩

/-! ### expressions -/
abbrev rLenK (K : PySem.W.Frag) : List V → Hp → VK → Prop := fun xs H Q => ∃ p ys, xs = [.ref p] ∧ (SqL K H p ys ∨ SqT K H p ys) ∧ Q (.int ys.length) H
theorem call_lenK {X : Cx} : CallR X (.builtin "len") (rLenK X.K) := call_len_seq
def Ev (te : TE) (σ : L2.St) (H : Hp) (P : VP) : Prop := ∀ H1, Same H H1 → ∀ Q : VK, (∀ v H2, Same H1 H2 → P v H2 → Q v H2) → te σ H1 Q
def Et (tt : TT) (σ : L2.St) (H : Hp) (b : Bool) : Prop := ∀ H1, Same H H1 → ∀ Q : Bool → Hp → Prop, (∀ H2, Same H1 H2 → Q b H2) → tt σ H1 Q
abbrev AP' := List V → Hp → Prop
def Ea (ta : TA) (σ : L2.St) (H : Hp) (P : AP') : Prop := ∀ H1, Same H H1 → ∀ Q : List V → Hp → Prop, (∀ vs H2, Same H1 H2 → P vs H2 → Q vs H2) → ta σ H1 Q
def A0 : AP' := fun vs _ => vs = []
def A1 (P : VP) (r : AP') : AP' := fun vs H => ∃ v ws, vs = v :: ws ∧ P v H ∧ r ws H
section
variable {K : PySem.W.Frag} {σ : L2.St} {H H' : Hp} {ta tb te tx : TE} {t u : TT} {x y z v : V} {r : R2} {P P1 P2 : VP}
theorem Ev.go {Q : VK} (h : Ev te σ H P) (k : ∀ v H1, Same H H1 → P v H1 → Q v H1) : te σ H Q := h H (Same.refl H) Q k
theorem Ea.go {ta : TA} {pa : AP'} {Q : List V → Hp → Prop} (h : Ea ta σ H pa) (k : ∀ vs H1, Same H H1 → pa vs H1 → Q vs H1) : ta σ H Q := h H (Same.refl H) Q k
theorem Et.go {b : Bool} {Q : Bool → Hp → Prop} (h : Et t σ H b) (k : ∀ H1, Same H H1 → Q b H1) : t σ H Q := h H (Same.refl H) Q k
theorem Ev.up (e : Same H H') (h : Ev te σ H P) : Ev te σ H' P := fun H1 a Q q => h H1 (e.trans a) Q q
theorem Et.up {b : Bool} (e : Same H H') (h : Et t σ H b) : Et t σ H' b := fun H1 a Q q => h H1 (e.trans a) Q q
theorem Ev.imp (h : Ev te σ H P) (f : ∀ v H1, Same H H1 → P v H1 → P1 v H1) : Ev te σ H P1 := fun H1 a Q q => h H1 a Q fun v H2 s p => q v H2 s (f v H2 (a.trans s) p)
theorem Et.is {b c : Bool} (h : Et t σ H b) (e : b = c) : Et t σ H c := e ▸ h
theorem Ev.is (h : Ev te σ H (Is v)) (e : v = x) : Ev te σ H (Is x) := e ▸ h
theorem ev_var {i : Nat} (h : σ[i]? = some (some v)) : Ev (tVar i) σ H (Is v) := fun H1 _ _ q => ⟨v, h, q v H1 (Same.refl H1) rfl⟩
theorem ev_varP [Mono P] {i : Nat} (h : σ[i]? = some (some v)) (p : P v H) : Ev (tVar i) σ H P := fun H1 s _ q => ⟨v, h, q v H1 (Same.refl H1) (Mono.up s p)⟩
theorem ev_c : Ev (tC v) σ H (Is v) := fun H1 _ _ q => q v H1 (Same.refl H1) rfl
theorem ev_op [Mono P1] (ha : Ev ta σ H P1) (hb : Ev tb σ H P2) (hr : ∀ x y H1, Same H H1 → P1 x H1 → P2 y H1 → ∀ Q : VK, (∀ v H2, Same H1 H2 → P v H2 → Q v H2) → r x y H1 Q) : Ev (tOp r ta tb) σ H P := fun H1 e Q q =>
  ha H1 e _ fun x H2 e2 p1 => hb H2 (e.trans e2) _ fun y H3 e3 p2 => hr x y H3 ((e.trans e2).trans e3) (Mono.up e3 p1) p2 Q fun v H4 e4 p => q v H4 ((e2.trans e3).trans e4) p
/-- two values that are known -/
theorem ev_op2 (ha : Ev ta σ H (Is x)) (hb : Ev tb σ H (Is y)) (hr : ∀ H1, Same H H1 → ∀ Q : VK, (∀ v H2, Same H1 H2 → P v H2 → Q v H2) → r x y H1 Q) : Ev (tOp r ta tb) σ H P :=
  ev_op ha hb fun _ _ H1 e h1 h2 Q q => by
    cases h1
    cases h2
    exact hr H1 e Q q
theorem ev_opI {g : Int → Int → V} {i j : Int} (ha : Ev ta σ H (Is (.int i))) (hb : Ev tb σ H (Is (.int j))) : Ev (tOp (rI0 g) ta tb) σ H (Is (g i j)) :=
  ev_op2 ha hb fun H1 _ _ q => ⟨i, j, rfl, rfl, q _ H1 (Same.refl _) rfl⟩
theorem ev_opC {C : Int → Int → Prop} {g : Int → Int → V} {i j : Int} (hc : C i j) (ha : Ev ta σ H (Is (.int i))) (hb : Ev tb σ H (Is (.int j))) : Ev (tOp (rI C g) ta tb) σ H (Is (g i j)) :=
  ev_op2 ha hb fun H1 _ _ q => ⟨i, j, rfl, rfl, hc, q _ H1 (Same.refl _) rfl⟩
theorem ev_eq (ha : Ev ta σ H (Is x)) (hb : Ev tb σ H (Is y)) (h : scal x y = true) : Ev (tOp rEq ta tb) σ H (Is (.bl (decide (x = y)))) :=
  ev_op2 ha hb fun H1 _ _ q => ⟨h, q _ H1 (Same.refl _) rfl⟩
theorem ev_ne (ha : Ev ta σ H (Is x)) (hb : Ev tb σ H (Is y)) (h : scal x y = true) : Ev (tOp rNe ta tb) σ H (Is (.bl (!decide (x = y)))) :=
  ev_op2 ha hb fun H1 _ _ q => ⟨h, q _ H1 (Same.refl _) rfl⟩
theorem ea_nil : Ea tNil σ H A0 := fun H1 _ _ q => q [] H1 (Same.refl _) rfl
theorem ea_cons [Mono P] {tr : TA} {r : AP'} (h : Ev te σ H P) (hr : Ea tr σ H r) : Ea (tCons te tr) σ H (A1 P r) := fun H1 e _ q =>
  h H1 e _ fun v H2 e2 p => hr H2 (e.trans e2) _ fun ws H3 e3 p3 => q _ H3 (e2.trans e3) ⟨v, ws, rfl, Mono.up e3 p, p3⟩
theorem ev_call {sp : Sp} {dvs : List V} {E : XK} {ta : TA} {pa : AP'} (h : Ea ta σ H pa) (hs : ∀ vs H1, Same H H1 → pa vs H1 → ∀ Q : VK, (∀ v H2, Same H1 H2 → P v H2 → Q v H2) → sp (vs ++ dvs) H1 Q E) : Ev (tCall sp dvs E ta) σ H P := fun H1 e Q q =>
  h H1 e _ fun vs H2 e2 p => hs vs H2 (e.trans e2) p Q fun v H3 e3 p3 => q v H3 (e2.trans e3) p3
theorem ev_cb {r : List V → Hp → VK → Prop} {ta : TA} {pa : AP'} (h : Ea ta σ H pa) (hr : ∀ vs H1, Same H H1 → pa vs H1 → ∀ Q : VK, (∀ v H2, Same H1 H2 → P v H2 → Q v H2) → r vs H1 Q) : Ev (tCB r ta) σ H P := fun H1 e Q q =>
  h H1 e _ fun vs H2 e2 p => hr vs H2 (e.trans e2) p Q fun v H3 e3 p3 => q v H3 (e2.trans e3) p3
theorem ev_tup {ta : TA} {pa : AP'} (h : Ea ta σ H pa) (hz : ∀ vs H1, pa vs H1 → vs.length ≤ 1000 ∧ ∀ p, H1 p = none → P (.ref p) (upd H1 p (.tup vs))) : Ev (tTup ta) σ H P := fun H1 e Q q =>
  h H1 e _ fun vs H2 e2 p => ⟨le_line (Nat.le_trans (hz vs H2 p).1 (by decide)), fun a na => q _ _ (e2.trans (same_new na)) ((hz vs H2 p).2 a na)⟩
theorem ev_lst {ta : TA} {pa : AP'} (h : Ea ta σ H pa) (hz : ∀ vs H1, pa vs H1 → vs.length ≤ 1000 ∧ ∀ p, H1 p = none → P (.ref p) (upd H1 p (.lst vs))) : Ev (tLst ta) σ H P := fun H1 e Q q =>
  h H1 e _ fun vs H2 e2 p => ⟨le_line (Nat.le_trans (hz vs H2 p).1 (by decide)), fun a na => q _ _ (e2.trans (same_new na)) ((hz vs H2 p).2 a na)⟩
/-- [] -/
theorem ev_nil {α : Type} {R : α → VP} : Ev (tLst tNil) σ H (SeqOf R []) := ev_lst ea_nil fun vs H1 h => by
  cases h
  exact ⟨by decide, fun p _ => ⟨p, [], rfl, upd_same, .nil⟩⟩
theorem et_test {b : Bool} (h : Ev te σ H (Is (.bl b))) : Et (tTest te) σ H b := fun H1 e _ q => h H1 e _ fun v H2 e2 p => ⟨b, p, q H2 e2⟩
theorem et_B {b : Bool} (h : Ev te σ H (Is (.bl b))) : Et (tB te) σ H b := fun H1 e _ q => h H1 e _ fun v H2 e2 p => ⟨b, p, q H2 e2⟩
theorem et_yes : Et tYes σ H true := fun H1 _ _ q => q H1 (Same.refl _)
theorem et_and {a b : Bool} (h1 : Et t σ H a) (h2 : a = true → Et u σ H b) : Et (tAnd t u) σ H (a && b) := fun H1 e Q q => h1 H1 e _ fun H2 e2 => by
  cases a with
  | true =>
    show u σ H2 Q
    exact h2 rfl H2 (e.trans e2) Q fun H3 e3 => q H3 (e2.trans e3)
  | false =>
    show Q false H2
    exact q H2 e2
theorem et_or {a b : Bool} (h1 : Et t σ H a) (h2 : a = false → Et u σ H b) : Et (tOr t u) σ H (a || b) := fun H1 e Q q => h1 H1 e _ fun H2 e2 => by
  cases a with
  | true =>
    show Q true H2
    exact q H2 e2
  | false =>
    show u σ H2 Q
    exact h2 rfl H2 (e.trans e2) Q fun H3 e3 => q H3 (e2.trans e3)
theorem et_not {a : Bool} (h1 : Et t σ H a) : Et (tNot t) σ H (!a) := fun H1 e _ q => h1 H1 e _ fun H2 e2 => q H2 e2
theorem ev_andV {a : Bool} (h1 : Ev ta σ H (Is (.bl a))) (h2 : a = true → Ev tb σ H P) (h3 : a = false → ∀ H1, Same H H1 → P (.bl false) H1) : Ev (tAndV ta tb) σ H P := fun H1 e Q q => h1 H1 e _ fun v H2 e2 p => ⟨a, p, by
  cases a with
  | true =>
    show tb σ H2 Q
    exact h2 rfl H2 (e.trans e2) Q fun v H3 e3 p3 => q v H3 (e2.trans e3) p3
  | false =>
    show Q (.bl false) H2
    exact q _ H2 e2 (h3 rfl H2 (e.trans e2))⟩
theorem ev_andB {a b : Bool} (h1 : Ev ta σ H (Is (.bl a))) (h2 : a = true → Ev tb σ H (Is (.bl b))) : Ev (tAndV ta tb) σ H (Is (.bl (a && b))) := by
  refine ev_andV h1 (fun e => ?_) (fun e H1 _ => ?_)
  · subst e
    exact h2 rfl
  · subst e
    rfl
theorem ev_notV {a : Bool} (h1 : Ev ta σ H (Is (.bl a))) : Ev (tNotV ta) σ H (Is (.bl (!a))) := fun H1 e _ q => h1 H1 e _ fun v H2 e2 p => ⟨a, p, q _ H2 e2 rfl⟩
theorem ev_if {b : Bool} (h : Et t σ H b) (h1 : b = true → Ev ta σ H P) (h2 : b = false → Ev tb σ H P) : Ev (tIf t ta tb) σ H P := fun H1 e Q q => h H1 e _ fun H2 e2 => by
  cases b with
  | true =>
    show ta σ H2 Q
    exact h1 rfl H2 (e.trans e2) Q fun v H3 e3 p => q v H3 (e2.trans e3) p
  | false =>
    show tb σ H2 Q
    exact h2 rfl H2 (e.trans e2) Q fun v H3 e3 p => q v H3 (e2.trans e3) p

/-! ### statements -/
variable {D : Ends} {tu tw : TS} {g : TG}
theorem s_asg {i : Nat} (h : Ev te σ H P) (k : ∀ v H1, Same H H1 → P v H1 → D.nx (σ.set i (some v)) H1) : tAsg te (gName i) D σ H := h H (Same.refl H) _ fun v H1 e p => k v H1 e p
theorem s_ret (h : Ev te σ H P) (k : ∀ v H1, Same H H1 → P v H1 → D.rt v H1) : tRet te D σ H := h H (Same.refl H) _ k
theorem s_if {b : Bool} (h : Et t σ H b) (h1 : b = true → ∀ H1, Same H H1 → tu D σ H1) (h2 : b = false → ∀ H1, Same H H1 → tw D σ H1) : tIfS t tu tw D σ H := h H (Same.refl H) _ fun H1 e => by
  cases b with
  | true =>
    show tu D σ H1
    exact h1 rfl H1 e
  | false =>
    show tw D σ H1
    exact h2 rfl H1 e
theorem s_drop (h : Ev te σ H P) (k : ∀ H1, Same H H1 → D.nx σ H1) : tDrop te D σ H := h H (Same.refl H) _ fun _ H1 e _ => k H1 e

/-- a list that did not stand in H0 -/
def NewL (H0 : Hp) (xs : List V) : VP := fun v H => ∃ p, v = .ref p ∧ H0 p = none ∧ H p = some (.lst xs)
instance {H0 : Hp} {xs : List V} : Mono (NewL H0 xs) := ⟨fun s ⟨p, e, n, h⟩ => ⟨p, e, n, s _ _ h⟩⟩
theorem ev_newL {ta : TA} (xs : List V) (h : Ea ta σ H (fun vs _ => vs = xs)) (hz : xs.length ≤ 1000) : Ev (tLst ta) σ H (NewL H xs) := fun H1 e Q q =>
  h H1 e _ fun vs H2 e2 p => by
    cases p
    exact ⟨le_line (Nat.le_trans hz (by decide)), fun a na => q _ _ (e2.trans (same_new na)) ⟨a, rfl, Same.free (e.trans e2) na, upd_same⟩⟩
theorem q_par {i j : Nat} {ta : TA} {pa : AP'} (h : Ea ta σ H pa) (k : ∀ vs H1, Same H H1 → pa vs H1 → ∃ v w, vs = [v, w] ∧ tw D ((σ.set i (some v)).set j (some w)) H1) : tSeq (tPar i j ta) tw D σ H := h H (Same.refl H) _ fun vs H1 e p => k vs H1 e p
/-- .. and then the rest of the block -/
theorem q_asg {i : Nat} (h : Ev te σ H P) (k : ∀ v H1, Same H H1 → P v H1 → tw D (σ.set i (some v)) H1) : tSeq (tAsg te (gName i)) tw D σ H := h H (Same.refl H) _ fun v H1 e p => k v H1 e p
theorem q_drop (h : Ev te σ H P) (k : ∀ H1, Same H H1 → tw D σ H1) : tSeq (tDrop te) tw D σ H := h H (Same.refl H) _ fun _ H1 e _ => k H1 e
/-- an if whose suite is never entered -/
theorem q_pass {t1 : TS} (h : Et t σ H false) (k : ∀ H1, Same H H1 → tw D σ H1) : tSeq (tIfS t t1 tNext) tw D σ H := h H (Same.refl H) _ fun H1 e => k H1 e
/-- an if whose suite is entered -/
theorem q_enter {t1 t2 : TS} (h : Et t σ H true) (k : ∀ H1, Same H H1 → t1 { D with nx := tw D } σ H1) : tSeq (tIfS t t1 t2) tw D σ H := h H (Same.refl H) _ fun H1 e => k H1 e

/-! ### lists: items, lengths, slices, sums of lists -/
theorem ev_len {pa : VP} (n : Nat) (h : Ev ta σ H pa) (hp : ∀ v H1, Same H H1 → pa v H1 → ∃ p ys, v = .ref p ∧ (SqL K H1 p ys ∨ SqT K H1 p ys) ∧ ys.length = n) [Mono pa] :
    Ev (tCB (rLenK K) (tCons ta tNil)) σ H (Is (.int (n : Int))) :=
  ev_cb (ea_cons h ea_nil) fun vs H1 s q Q k => by
    obtain ⟨v, ws, rfl, pv, rfl⟩ := q
    obtain ⟨p, ys, rfl, e, l⟩ := hp v H1 s pv
    exact ⟨p, ys, rfl, e, k _ _ (Same.refl _) (by rw [l]; rfl)⟩
theorem ev_lenL {α : Type} {R : α → VP} {as : List α} [∀ a, Mono (R a)] (h : Ev ta σ H (SeqOf R as)) :
    Ev (tCB (rLenK K) (tCons ta tNil)) σ H (Is (.int (as.length : Int))) :=
  ev_len as.length h fun v H1 _ ⟨t, vs, e, h, r⟩ => ⟨t, vs, e, .inl (SqL.of h), r.length⟩
theorem ev_lenT {ns : List Int} (h : Ev ta σ H (TupOf ns)) :
    Ev (tCB (rLenK K) (tCons ta tNil)) σ H (Is (.int (ns.length : Int))) :=
  ev_len ns.length h fun v H1 _ ⟨t, e, h⟩ => ⟨t, _, e, .inr (SqT.of h), by rw [List.length_map]⟩
theorem ev_ixL {α : Type} {R : α → VP} {as : List α} {a : α} {j : Nat} [∀ a, Mono (R a)] (h : Ev ta σ H (SeqOf R as)) (hj : as[j]? = some a) (hb : Ev tb σ H (Is (.int (j : Int)))) : Ev (tOp (rIxL K) ta tb) σ H (R a) :=
  ev_op h hb fun x y H1 s p1 p2 Q k => by
    obtain ⟨t, vs, rfl, h, r⟩ := p1
    cases p2
    obtain ⟨v, ev, rv⟩ := r.get' hj
    exact ⟨t, vs, j, v, rfl, rfl, SqL.of h, atI_nat ev, k v H1 (Same.refl _) rv⟩
theorem ev_ixT {ns : List Int} {a : Int} {j : Nat} (h : Ev ta σ H (TupOf ns)) (hj : ns[j]? = some a) (hb : Ev tb σ H (Is (.int (j : Int)))) : Ev (tOp (rIxT K) ta tb) σ H (Is (.int a)) :=
  ev_op h hb fun x y H1 s p1 p2 Q k => by
    obtain ⟨t, rfl, h⟩ := p1
    cases p2
    exact ⟨t, _, j, .int a, rfl, rfl, SqT.of h, atI_nat (by rw [List.getElem?_map, hj]; rfl), k _ H1 (Same.refl _) rfl⟩
theorem ev_cat {α : Type} {R : α → VP} {as bs : List α} [∀ a, Mono (R a)] (ha : Ev ta σ H (SeqOf R as)) (hb : Ev tb σ H (SeqOf R bs)) (hz : as.length + bs.length ≤ 10000000) : Ev (tOp rCat ta tb) σ H (SeqOf R (as ++ bs)) :=
  ev_op ha hb fun x y H1 s p1 p2 Q k => by
    obtain ⟨t, vs, rfl, h1, r1⟩ := p1
    obtain ⟨u, ws, rfl, h2, r2⟩ := p2
    refine ⟨t, u, vs, ws, rfl, rfl, h1, h2, ?_, fun p np => k _ _ (same_new np) ⟨p, _, rfl, upd_same, (r1.append r2).up (same_new np)⟩⟩
    rw [r1.length, r2.length]
    exact le_line hz
theorem ev_catT {as bs : List Int} (ha : Ev ta σ H (TupOf as)) (hb : Ev tb σ H (TupOf bs)) (hz : as.length + bs.length ≤ 10000000) : Ev (tOp (rCatA K) ta tb) σ H (TupOf (as ++ bs)) :=
  ev_op ha hb fun x y H1 s p1 p2 Q k => by
    obtain ⟨t, rfl, h1⟩ := p1
    obtain ⟨u, rfl, h2⟩ := p2
    refine ⟨t, u, _, _, rfl, rfl, SqT.of h1, SqT.of h2, ?_, fun e => ?_, fun e1 e2 => ?_, fun e1 e2 p np => ?_⟩
    · rw [List.length_map, List.length_map]
      exact le_line hz
    · have e' : as = [] := List.map_eq_nil_iff.mp e
      subst e'
      exact k _ _ (Same.refl _) ⟨u, rfl, h2⟩
    · have e' : bs = [] := List.map_eq_nil_iff.mp e2
      subst e'
      rw [List.append_nil] at k
      exact k _ _ (Same.refl _) ⟨t, rfl, h1⟩
    · exact k _ _ (same_new np) ⟨p, rfl, by rw [upd_same, List.map_append]⟩
theorem ev_sliceL {α : Type} {R : α → VP} {as : List α} [∀ a, Mono (R a)] {tl th : TO} {lo hi : Option Int} (h : Ev ta σ H (SeqOf R as)) (hl : ∀ H1 (Q : Option Int → Hp → Prop), Same H H1 → (∀ H2, Same H1 H2 → Q lo H2) → tl σ H1 Q)
    (hh : ∀ H1 (Q : Option Int → Hp → Prop), Same H H1 → (∀ H2, Same H1 H2 → Q hi H2) → th σ H1 Q) (bs : List α) (hb : ∀ vs H1, All2 R H1 as vs → All2 R H1 bs (cutV vs lo hi)) : Ev (tSl (rSlL K) ta tl th) σ H (SeqOf R bs) := fun H1 e Q q =>
  h H1 e _ fun v H2 e2 p => hl H2 _ (e.trans e2) fun H3 e3 => hh H3 _ ((e.trans e2).trans e3) fun H4 e4 => by
    obtain ⟨t, vs, rfl, h, r⟩ := p
    have s := e3.trans e4
    exact ⟨t, vs, rfl, SqL.of (s _ _ h), fun p np => q _ _ ((e2.trans s).trans (same_new np)) ⟨p, _, rfl, upd_same, (hb _ _ (r.up s)).up (same_new np)⟩⟩
end

/-! ### comprehensions -/
section
variable {K : PySem.W.Frag} {σ : L2.St} {H : Hp} {te : TE} {tt : TT} {α β : Type} {RB : β → VP} [∀ b, Mono (RB b)]
/-- what a comprehension's list is, behind i turns -/
structure Cw (RB : β → VP) (H : Hp) (bs : List β) (Dl : Addr) (H' : Hp) : Prop where
  fr : H Dl = none
  sm : Same H H'
  ls : ∃ vs, H' Dl = some (.lst vs) ∧ All2 RB H' bs vs
theorem cw_new {Dl : Addr} (h : H Dl = none) : Cw RB H [] Dl (upd H Dl (.lst [])) := ⟨h, same_new h, [], upd_same, .nil⟩
theorem all2_upd {H' : Hp} {Dl : Addr} {bs : List β} {vs : List V} {xs ys : List V} (h : All2 RB H' bs vs) (hx : H' Dl = some (.lst xs)) (st : ∀ b v, RB b v H' → RB b v (upd H' Dl (.lst ys))) : All2 RB (upd H' Dl (.lst ys)) bs vs := by
  induction h with
  | nil => exact .nil
  | cons r _ ih => exact .cons (st _ _ r) ih
/-- items that do not lean on lists -/
class Firm (R : β → VP) : Prop where
  st : ∀ {b : β} {v : V} {H : Hp} {p : Addr} {xs ys : List V}, H p = some (.lst xs) → R b v H → R b v (upd H p (.lst ys))
instance : Firm IntI := ⟨fun _ h => h⟩
instance : Firm TupOf := ⟨fun hp ⟨t, e, h⟩ => ⟨t, e, by rw [upd_ne (ne_of h hp (fun z => by cases z))]; exact h⟩⟩
theorem cw_turn [Firm RB] {H' : Hp} {bs : List β} {b : β} {f : Bool} {Dl : Addr} {σ2 : L2.St} {N : Hp → Prop} (p : Cw RB H bs Dl H') (hz : bs.length < 10000000) (ht : Et tt σ2 H' f) (he : f = true → Ev te σ2 H' (RB b))
    (hn : ∀ H3, Cw RB H (bs ++ (if f = true then [b] else [])) Dl H3 → N H3) :
    tt σ2 H' fun b H3 => if b = true then te σ2 H3 fun y H4 => ∃ acc, H4 Dl = some (.lst acc) ∧ acc.length < sizeLine ∧ N (upd H4 Dl (.lst (acc ++ [y]))) else N H3 := by
  obtain ⟨p1, p2, vs, p3, p4⟩ := p
  refine ht H' (Same.refl _) _ fun H3 e3 => ?_
  cases hf : f with
  | true =>
    subst hf
    show te σ2 H3 fun y H4 => ∃ acc, H4 Dl = some (.lst acc) ∧ acc.length < sizeLine ∧ N (upd H4 Dl (.lst (acc ++ [y])))
    refine he rfl H3 e3 _ fun y H4 e4 ry => ⟨vs, e4 Dl _ (e3 Dl _ p3), ?_, hn _ ⟨p1, same_mut ((p2.trans e3).trans e4) p1, _, upd_same, ?_⟩⟩
    · rw [p4.length]
      exact lt_line (Nat.le_of_lt hz)
    · have h4 := e4 Dl _ (e3 Dl _ p3)
      exact (all2_upd (p4.up (e3.trans e4)) h4 fun _ _ r => Firm.st h4 r).append (.one (Firm.st h4 ry))
  | false =>
    subst hf
    show N H3
    exact hn _ ⟨p1, p2.trans e3, vs, e3 _ _ p3, by
      show All2 RB H3 (bs ++ []) vs
      rw [List.append_nil]
      exact p4.up e3⟩
theorem fm_take {f : α → Bool} {g : α → β} {as : List α} {i : Nat} {a : α} (h : as[i]? = some a) : ((as.take (i + 1)).filter f).map g = ((as.take i).filter f).map g ++ (if f a = true then [g a] else []) := by
  rw [List.take_add_one, h]
  show ((as.take i ++ [a]).filter f).map g = _
  rw [List.filter_append, List.map_append]
  congr 1
  rw [List.filter_cons]
  split <;> rfl
theorem fm_len {f : α → Bool} {g : α → β} (as : List α) (i : Nat) : (((as.take i).filter f).map g).length ≤ as.length := by
  rw [List.length_map]
  refine Nat.le_trans (List.length_filter_le _ _) ?_
  rw [List.length_take]
  exact Nat.min_le_right _ _
/-- over a list -/
theorem ev_lcL [Firm RB] {RA : α → VP} [∀ a, Mono (RA a)] {tl : TE} {j : Nat} {vs : List Nat} (as : List α) (f : α → Bool) (g : α → β) (h : Ev tl σ H (SeqOf RA as)) (hz : as.length ≤ 4000000) (hw : ∀ x, wipe ((wipe σ vs).set j (some x)) vs = wipe σ vs)
    (ht : ∀ a ∈ as, ∀ x H1, Same H H1 → RA a x H1 → Et tt ((wipe σ vs).set j (some x)) H1 (f a)) (he : ∀ a ∈ as, f a = true → ∀ x H1, Same H H1 → RA a x H1 → Ev te ((wipe σ vs).set j (some x)) H1 (RB (g a))) :
    Ev (tLc (iList K tl) (gName j) tt te vs) σ H (SeqOf RB ((as.filter f).map g)) := fun H0 e0 Q q => h H0 e0 _ fun v H1 e1 ⟨a, xs, ev, ha, hr⟩ => by
  subst ev
  refine ⟨a, rfl, ⟨xs, SqL.of ha⟩, fun Dl hD => lc_list (xs := xs) (fun i H' => Cw RB H1 (((as.take i).filter f).map g) Dl H') (cw_new hD) (fun i H' _ p => SqL.of (p.sm _ _ ha)) (fun i x H' hi p => ?_) fun H' p => ?_⟩
  · obtain ⟨b, hb, rb⟩ := hr.get hi
    have hm : b ∈ as := List.mem_of_getElem? hb
    have sm := (e0.trans e1).trans p.sm
    refine ⟨hw x, cw_turn (f := f b) (b := g b) p (by have := fm_len (f := f) (g := g) as i; omega) (ht b hm x H' sm (Mono.up p.sm rb)) (fun hf => he b hm hf x H' sm (Mono.up p.sm rb)) fun H3 c => ?_⟩
    rw [fm_take hb]
    exact c
  · have el : xs.length = as.length := hr.length
    have p' : Cw RB H1 (((as.take xs.length).filter f).map g) Dl H' := p
    rw [el, List.take_length] at p'
    obtain ⟨zs, z1, z2⟩ := p'.ls
    exact q _ _ (e1.trans p'.sm) ⟨Dl, zs, rfl, z1, z2⟩
/-- over a tuple of ints -/
theorem ev_lcT [Firm RB] {tl : TE} {j : Nat} {vs : List Nat} (as : List Int) (f : Int → Bool) (g : Int → β) (h : Ev tl σ H (TupOf as)) (hz : as.length ≤ 4000000) (hw : ∀ x, wipe ((wipe σ vs).set j (some x)) vs = wipe σ vs)
    (ht : ∀ a ∈ as, ∀ H1, Same H H1 → Et tt ((wipe σ vs).set j (some (.int a))) H1 (f a)) (he : ∀ a ∈ as, f a = true → ∀ H1, Same H H1 → Ev te ((wipe σ vs).set j (some (.int a))) H1 (RB (g a))) :
    Ev (tLc (iTup K tl) (gName j) tt te vs) σ H (SeqOf RB ((as.filter f).map g)) := fun H0 e0 Q q => h H0 e0 _ fun v H1 e1 ⟨a, ev, ha⟩ => by
  subst ev
  refine ⟨a, rfl, ⟨_, SqT.of ha⟩, fun Dl hD => lc_tup (xs := as.map V.int) (fun i H' => Cw RB H1 (((as.take i).filter f).map g) Dl H') (cw_new hD) (fun i H' _ p => SqT.of (p.sm _ _ ha)) (fun i x H' hi p => ?_) fun H' p => ?_⟩
  · obtain ⟨b, hb, rb⟩ : ∃ b, as[i]? = some b ∧ V.int b = x := by
      rw [List.getElem?_map] at hi
      cases hc : as[i]? with
      | none => rw [hc] at hi; cases hi
      | some b => rw [hc] at hi; exact ⟨b, rfl, Option.some.inj hi⟩
    subst rb
    have hm : b ∈ as := List.mem_of_getElem? hb
    have sm := (e0.trans e1).trans p.sm
    refine ⟨hw _, cw_turn (f := f b) (b := g b) p (by have := fm_len (f := f) (g := g) as i; omega) (ht b hm H' sm) (fun hf => he b hm hf H' sm) fun H3 c => ?_⟩
    rw [fm_take hb]
    exact c
  · have p' : Cw RB H1 (((as.take (as.map V.int).length).filter f).map g) Dl H' := p
    rw [List.length_map, List.take_length] at p'
    obtain ⟨zs, z1, z2⟩ := p'.ls
    exact q _ _ (e1.trans p'.sm) ⟨Dl, zs, rfl, z1, z2⟩
/-- lo, lo + 1, .. below hi -/
def rng (lo hi : Int) : List Int := (List.range (hi - lo).toNat).map fun i => lo + (i : Nat)
theorem rng_get {lo hi : Int} {i : Nat} (h : i < (hi - lo).toNat) : (rng lo hi)[i]? = some (lo + (i : Nat)) := by
  unfold rng
  rw [List.getElem?_map, List.getElem?_range h]
  rfl
theorem rng_len (lo hi : Int) : (rng lo hi).length = (hi - lo).toNat := by
  unfold rng
  rw [List.length_map, List.length_range]
/-- over a range -/
theorem lc_rng [Firm RB] {j : Nat} {vs : List Nat} (lo hi : Int) (f : Int → Bool) (g : Int → β) (hz : (hi - lo).toNat ≤ 4000000) (hw : ∀ x, wipe ((wipe σ vs).set j (some x)) vs = wipe σ vs)
    (ht : ∀ a ∈ rng lo hi, ∀ H1, Same H H1 → Et tt ((wipe σ vs).set j (some (.int a))) H1 (f a)) (he : ∀ a ∈ rng lo hi, f a = true → ∀ H1, Same H H1 → Ev te ((wipe σ vs).set j (some (.int a))) H1 (RB (g a))) {H0 H1 : Hp} (e0 : Same H H0) (e1 : Same H0 H1)
    {Q : VK} (q : ∀ v H2, Same H0 H2 → SeqOf RB (((rng lo hi).filter f).map g) v H2 → Q v H2) :
    ∀ D, H1 D = none → ∃ W : Nat → Nat → Hp → Prop, (∃ m, W 0 m (upd H1 D (.lst []))) ∧ ∀ i m H, W i m H →
      ((Itr lo (hi - lo).toNat).stop i H ∧ Q (.ref D) H) ∨ ((Itr lo (hi - lo).toNat).go i H ∧ ∃ Nx : Hp → Prop, (∀ H', Nx H' → ∃ m', m' < m ∧ W (i + 1) m' H') ∧ ∀ x H', (Itr lo (hi - lo).toNat).yld i H x H' → gName j x (wipe σ vs) H' fun σ2 H2 => wipe σ2 vs = wipe σ vs ∧ tt σ2 H2 fun b H3 =>
        if b = true then te σ2 H3 fun y H4 => ∃ acc, H4 D = some (.lst acc) ∧ acc.length < sizeLine ∧ Nx (upd H4 D (.lst (acc ++ [y]))) else Nx H3) := fun Dl hD => by
  refine lc_range (fun i H' => Cw RB H1 ((((rng lo hi).take i).filter f).map g) Dl H') (cw_new hD) (fun i H' hi' p => ?_) fun H' p => ?_
  · have hb := rng_get (lo := lo) (hi := hi) hi'
    have hm := List.mem_of_getElem? hb
    have sm := (e0.trans e1).trans p.sm
    refine ⟨hw _, cw_turn (f := f (lo + (i : Nat))) (b := g (lo + (i : Nat))) p (by have := fm_len (f := f) (g := g) (rng lo hi) i; rw [rng_len] at this; omega) (ht _ hm H' sm) (fun hf => he _ hm hf H' sm) fun H3 c => ?_⟩
    rw [fm_take hb]
    exact c
  · have p' : Cw RB H1 ((((rng lo hi).take (hi - lo).toNat).filter f).map g) Dl H' := p
    rw [← rng_len, List.take_length] at p'
    obtain ⟨zs, z1, z2⟩ := p'.ls
    exact q _ _ (e1.trans p'.sm) ⟨Dl, zs, rfl, z1, z2⟩
theorem ev_lcR1 [Firm RB] {ta : TA} {j : Nat} {vs : List Nat} (n : Int) (f : Int → Bool) (g : Int → β) (h : Ea ta σ H (A1 (Is (.int n)) A0)) (hz : n ≤ 4000000) (h0 : 0 ≤ n) (hw : ∀ x, wipe ((wipe σ vs).set j (some x)) vs = wipe σ vs)
    (ht : ∀ a ∈ rng 0 n, ∀ H1, Same H H1 → Et tt ((wipe σ vs).set j (some (.int a))) H1 (f a)) (he : ∀ a ∈ rng 0 n, f a = true → ∀ H1, Same H H1 → Ev te ((wipe σ vs).set j (some (.int a))) H1 (RB (g a))) :
    Ev (tLc (iRng1 ta) (gName j) tt te vs) σ H (SeqOf RB (((rng 0 n).filter f).map g)) := fun H0 e0 Q q => h H0 e0 _ fun ws H1 e1 p => by
  obtain ⟨v, r, rfl, rfl, rfl⟩ := p
  have k := lc_rng (H0 := H0) (H1 := H1) (tt := tt) (te := te) 0 n f g (by omega) hw ht he e0 e1 q
  rw [Int.sub_zero] at k
  exact ⟨n, rfl, by omega, by omega, k⟩
theorem ev_lcR2 [Firm RB] {ta : TA} {j : Nat} {vs : List Nat} (lo hi : Int) (f : Int → Bool) (g : Int → β) (h : Ea ta σ H (A1 (Is (.int lo)) (A1 (Is (.int hi)) A0))) (hz : (hi - lo).toNat ≤ 4000000 ∧ -1000000 ≤ lo ∧ lo ≤ 1000000 ∧ -1000000 ≤ hi ∧ hi ≤ 4000000) (hw : ∀ x, wipe ((wipe σ vs).set j (some x)) vs = wipe σ vs)
    (ht : ∀ a ∈ rng lo hi, ∀ H1, Same H H1 → Et tt ((wipe σ vs).set j (some (.int a))) H1 (f a)) (he : ∀ a ∈ rng lo hi, f a = true → ∀ H1, Same H H1 → Ev te ((wipe σ vs).set j (some (.int a))) H1 (RB (g a))) :
    Ev (tLc (iRng2 ta) (gName j) tt te vs) σ H (SeqOf RB (((rng lo hi).filter f).map g)) := fun H0 e0 Q q => h H0 e0 _ fun ws H1 e1 p => by
  obtain ⟨v, r, rfl, rfl, v', r', rfl, rfl, rfl⟩ := p
  exact ⟨lo, hi, rfl, ⟨by omega, by omega, by omega, by omega⟩, lc_rng lo hi f g hz.1 hw ht he e0 e1 q⟩
end

/-! ### o[i] as an operator's place -/
section
variable {X : Cx}
/-- .. of a list that stands in H, at a place from the front -/
def rGetN : V → V → Hp → VK → Prop := fun o i H Q => ∃ (p : Addr) (xs : List V) (j : Nat) (v : V), o = .ref p ∧ i = .int (j : Int) ∧ H p = some (.lst xs) ∧ xs[j]? = some v ∧ Q v H
theorem pget_nat : PGet X rGetN := by
  intro pins s τ H o i ov iv Q inv ro ri ⟨p, xs, j, v, eo, ei, hp, hv, fin⟩
  subst eo
  subst ei
  cases ro
  obtain ⟨tk, rfl⟩ := ri
  obtain ⟨us, vals, plain, few⟩ := inv.list (SqL.of hp)
  obtain ⟨u, hu, ru⟩ := vals.get hv
  have place : j < xs.length := (List.getElem?_eq_some_iff.mp hv).1
  have line : (sizeLine : Nat) < 2 ^ 63 := line63
  exact wpAny_getItem_list plain.isList (Int.natCast_nonneg j) (by omega) (by simpa using hu) ⟨v, H, inv, ru, fin⟩
end
end Fs

/-! The mirrors: what each def computes, as plain functions. -/
namespace Fs
open PySem PySem.Spec PyProof.Rows L2

/-! ### sorting by a key -/
def insK {α : Type} (k : α → Int) (x : α) : List α → List α
  | [] => [x]
  | y :: r => if k x ≤ k y then x :: y :: r else y :: insK k x r
def sortK {α : Type} (k : α → Int) : List α → List α
  | [] => []
  | x :: r => insK k x (sortK k r)
section
variable {α : Type} {k : α → Int}
theorem insK_perm (x : α) : ∀ l, (insK k x l).Perm (x :: l)
  | [] => .refl _
  | y :: r => by
    unfold insK
    split
    · exact .refl _
    · exact ((insK_perm x r).cons y).trans (.swap x y r)
theorem sortK_perm : ∀ l : List α, (sortK k l).Perm l
  | [] => .refl _
  | x :: r => (insK_perm x _).trans ((sortK_perm r).cons x)
theorem insK_sorted (x : α) : ∀ l, l.Pairwise (fun a b => k a ≤ k b) → (insK k x l).Pairwise (fun a b => k a ≤ k b)
  | [], _ => List.pairwise_singleton _ _
  | y :: r, h => by
    obtain ⟨h1, h2⟩ := List.pairwise_cons.mp h
    unfold insK
    split
    · rename_i hxy
      refine List.pairwise_cons.mpr ⟨fun z hz => ?_, h⟩
      rcases List.mem_cons.mp hz with e | hz
      · rw [e]; exact hxy
      · exact Int.le_trans hxy (h1 z hz)
    · rename_i hxy
      refine List.pairwise_cons.mpr ⟨fun z hz => ?_, insK_sorted x r h2⟩
      rcases List.mem_cons.mp ((insK_perm x r).mem_iff.mp hz) with e | hz
      · rw [e]; omega
      · exact h1 z hz
theorem sortK_sorted : ∀ l : List α, (sortK k l).Pairwise (fun a b => k a ≤ k b)
  | [] => .nil
  | x :: r => insK_sorted x _ (sortK_sorted r)
theorem sort_uniq : ∀ {xs ys : List α}, xs.Perm ys → xs.Pairwise (fun a b => k a ≤ k b) → ys.Pairwise (fun a b => k a ≤ k b) → (∀ a ∈ xs, ∀ b ∈ xs, k a = k b → a = b) → xs = ys
  | [], ys, p, _, _, _ => p.nil_eq
  | x :: xs, [], p, _, _, _ => p.symm.nil_eq.symm
  | x :: xs, y :: ys, p, hx, hy, inj => by
    obtain ⟨x1, x2⟩ := List.pairwise_cons.mp hx
    obtain ⟨y1, y2⟩ := List.pairwise_cons.mp hy
    have my : y ∈ x :: xs := p.mem_iff.mpr List.mem_cons_self
    have mx : x ∈ y :: ys := p.mem_iff.mp List.mem_cons_self
    have le1 : k x ≤ k y := by
      rcases List.mem_cons.mp my with e | m
      · rw [e]; exact Int.le_refl _
      · exact x1 y m
    have le2 : k y ≤ k x := by
      rcases List.mem_cons.mp mx with e | m
      · rw [e]; exact Int.le_refl _
      · exact y1 x m
    have e : x = y := inj x List.mem_cons_self y my (Int.le_antisymm le1 le2)
    subst e
    rw [sort_uniq p.cons_inv x2 y2 fun a ha b hb => inj a (List.mem_cons_of_mem _ ha) b (List.mem_cons_of_mem _ hb)]
theorem sortK_eq {xs ys : List α} (p : ys.Perm xs) (s : ys.Pairwise (fun a b => k a ≤ k b)) (inj : ∀ a ∈ xs, ∀ b ∈ xs, k a = k b → a = b) : ys = sortK k xs :=
  sort_uniq (p.trans (sortK_perm xs).symm) s (sortK_sorted xs) fun a ha b hb => inj a (p.mem_iff.mp ha) b (p.mem_iff.mp hb)
end
def sortI (l : List Int) : List Int := sortK (fun x => x) l
theorem sortI_eq {xs ys : List Int} (p : ys.Perm xs) (s : ys.Pairwise (· ≤ ·)) : ys = sortI xs := sortK_eq (k := fun x => x) p s fun _ _ _ _ e => e
/-- tuples of one length, below 256 -/
def sortT (l : List (List Int)) : List (List Int) := sortK (TS.code 256) l
def okT (d : Int) (t : List Int) : Bool := decide ((t.length : Int) = d) && t.all fun x => decide (0 ≤ x) && decide (x < 256)
theorem okT_iff {d : Int} {t : List Int} (h : okT d t = true) : (t.length : Int) = d ∧ TS.Bd 256 t := by
  unfold okT at h
  rw [Bool.and_eq_true, decide_eq_true_eq, List.all_eq_true] at h
  refine ⟨h.1, fun m hm => ?_⟩
  have q := h.2 m hm
  rw [Bool.and_eq_true, decide_eq_true_eq, decide_eq_true_eq] at q
  exact q
theorem code_inj : ∀ {a b : List Int}, a.length = b.length → TS.Bd 256 a → TS.Bd 256 b → TS.code 256 a = TS.code 256 b → a = b
  | [], [], _, _, _, _ => rfl
  | [], _ :: _, h, _, _, _ => by simp at h
  | _ :: _, [], h, _, _, _ => by simp at h
  | x :: a, y :: b, h, ha, hb, e => by
    have hl : a.length = b.length := by simpa using h
    rcases Int.lt_trichotomy x y with q | q | q
    · have := TS.code_lt (B := 256) hl ha.tail hb.tail q
      omega
    · subst q
      have e' : x * 256 ^ a.length + TS.code 256 a = x * 256 ^ b.length + TS.code 256 b := e
      rw [hl] at e'
      rw [code_inj hl ha.tail hb.tail (by omega)]
    · have := TS.code_lt (B := 256) hl.symm hb.tail ha.tail q
      omega
theorem sortT_eq {d : Int} {xs ys : List (List Int)} (ok : xs.all (okT d) = true) (p : ys.Perm xs) (s : ys.Pairwise (fun a b => TS.code 256 a ≤ TS.code 256 b)) : ys = sortT xs :=
  sortK_eq (k := TS.code 256) p s fun a ha b hb e => by
    obtain ⟨a1, a2⟩ := okT_iff (List.all_eq_true.mp ok a ha)
    obtain ⟨b1, b2⟩ := okT_iff (List.all_eq_true.mp ok b hb)
    exact code_inj (by omega) a2 b2 e

/-! ### the program's defs -/
def gcdG : Nat → Int → Int → Option Int
  | 0, _, _ => none
  | n + 1, a, b => if b = 0 then some a else gcdG n b (a % b)
def bump (m a : Int) (xs : List Int) (b : Int) : List Int := xs.set ((a - b) % m).toNat (xs.getD ((a - b) % m).toNat 0 + 1)
def countsM (m : Int) (t : List Int) : List Int := t.foldl (fun acc a => t.foldl (bump m a) acc) (List.replicate m.toNat 0)
def commonM (cs : List Int) : Option Int := match cs.drop 1 with
  | [] => none
  | x :: r => if (x :: r).all (fun c => decide (c = x)) = true then some x else none
def orbitG (m f s : Int) : Nat → Int → List Int → Option (List Int)
  | 0, _, _ => none
  | n + 1, at_, acc => if at_ = s then some acc else orbitG m f s n (at_ * f % m) (acc ++ [at_])
def orbitsG (m f : Int) : Nat → List Int → List (List Int) → Option (List (List Int))
  | _, [], found => some found
  | 0, _ :: _, _ => none
  | n + 1, s :: r, found => match orbitG m f s 256 (s * f % m) [s] with
    | none => none
    | some o => orbitsG m f n ((s :: r).filter fun p => !(o.contains p)) (found ++ [sortI o])
def orbitsM (m f : Int) : Option (List (List Int)) := orbitsG m f 256 (rng 0 m) []
def joinU (k : Int) (o : List Int) (told : List (List Int)) : List (List Int) := told ++ ((told.filter fun s => decide ((s.length : Int) + (o.length : Int) ≤ k)).map fun s => s ++ o)
def unionsG (k : Int) : List (List Int) → List (List Int) → List (List Int)
  | [], told => told
  | o :: r, told => unionsG k r (joinU k o told)
def unionsM (os : List (List Int)) (k : Int) : List (List Int) := ((unionsG k os [[]]).filter fun s => decide ((s.length : Int) = k)).map sortI
def rawM (m k l : Int) (os : List (List Int)) : List (List Int) := (unionsM os k).filter fun t => decide (commonM (countsM m t) = some l)
/-- what fixed_sets hands back, where it does -/
structure FixOk (m k l f : Int) (res : List (List Int)) : Prop where
  hm : 1 ≤ m ∧ m ≤ 200
  hk : 1 ≤ k ∧ k ≤ m
  hl : 0 ≤ l ∧ l ≤ m
  hf : 0 ≤ f ∧ f ≤ m - 1
  hg : gcdG 64 f m = some 1
  os : ∃ os, orbitsM m f = some os ∧ os.length ≤ 20 ∧ (rawM m k l os).length < 64 ∧ (rawM m k l os).all (okT k) = true ∧ sortT (rawM m k l os) = res

/-! ### the law's defs -/
def onceG : List Int → List Int → List Int
  | [], f => f
  | v :: r, f => onceG r (if f.contains v = true then f else f ++ [v])
def onceM (vs : List Int) : List Int := sortI (onceG vs [])
def lcommonM (cs : List Int) : Option Int := match onceM (cs.drop 1) with
  | [x] => some x
  | _ => none
def movedM (m : Int) (t : List Int) (f s : Int) : List Int := sortI (t.map fun p => (p * f + s) % m)
def setsG (k : Int) : List Int → List (List Int) → List (List Int)
  | [], found => found
  | a :: r, found => setsG k r (found ++ ((found.filter fun t => decide ((t.length : Int) < k)).map fun t => t ++ [a]))
def setsM (n k : Int) : List (List Int) := (setsG k (rng 0 n) [[]]).filter fun t => decide ((t.length : Int) = k)
def primeM (n : Int) : Bool := decide (1 < n) && ((rng 2 n).filter fun p => decide (n % p = 0)).isEmpty
def everyM (m k l : Int) : List (List Int) := (setsM m k).filter fun t => decide (lcommonM (countsM m t) = some l)
def factorsM (m : Int) : List Int := (rng 2 m).filter fun p => ((rng 2 m).filter fun f => decide (m % f = 0) && decide (p % f = 0)).isEmpty
def dueM (m f : Int) (every : List (List Int)) : List (List Int) := every.filter fun t => decide (movedM m t f 0 = t)
def primesM (o : Int) : List Int := (rng 2 (o + 1)).filter fun p => decide (o % p = 0) && primeM p
end Fs

/-! The framework, further: data, order, sorting, conversions. -/
namespace Fs
open PySem PySem.Spec PyProof.Rows L2

/-! ### data -/
def dI (ns : List Int) : PyData := .list (ns.map PyData.int)
def dT (ns : List Int) : PyData := .tuple (ns.map PyData.int)
def dL (ts : List (List Int)) : PyData := .list (ts.map dT)
theorem lay_ints : ∀ ns : List Int, PyData.canLayAll0 (ns.map PyData.int) = true
  | [] => by simp [PyData.canLayAll0]
  | n :: ns => by simp [PyData.canLayAll0, PyData.canLay0, lay_ints ns]
theorem depth_ints : ∀ ns : List Int, PyData.depthAll (ns.map PyData.int) = 0
  | [] => by simp [PyData.depthAll]
  | n :: ns => by simp [PyData.depthAll, PyData.depth, depth_ints ns]
theorem lay_tups : ∀ ts : List (List Int), PyData.canLayAll0 (ts.map dT) = true
  | [] => by simp [PyData.canLayAll0]
  | t :: ts => by simp [PyData.canLayAll0, dT, PyData.canLay0, lay_ints, lay_tups ts]
theorem depth_tups : ∀ ts : List (List Int), PyData.depthAll (ts.map dT) ≤ 1
  | [] => by simp [PyData.depthAll]
  | t :: ts => by
    have h := depth_tups ts
    have e : (dT t).depth = 1 := by simp [dT, PyData.depth, depth_ints]
    simp only [List.map_cons, PyData.depthAll]
    omega
theorem shaped_dI (ns : List Int) : SeqAt.shaped (dI ns) = true := by
  show ((dI ns).canLay0 && decide ((dI ns).depth ≤ 64)) = true
  rw [Bool.and_eq_true, decide_eq_true_eq]
  exact ⟨by simp only [dI, PyData.canLay0]; exact lay_ints ns, by simp [dI, PyData.depth, depth_ints]⟩
theorem shaped_dT (ns : List Int) : SeqAt.shaped (dT ns) = true := by
  show ((dT ns).canLay0 && decide ((dT ns).depth ≤ 64)) = true
  rw [Bool.and_eq_true, decide_eq_true_eq]
  exact ⟨by simp only [dT, PyData.canLay0]; exact lay_ints ns, by simp [dT, PyData.depth, depth_ints]⟩
theorem shaped_dL (ts : List (List Int)) : SeqAt.shaped (dL ts) = true := by
  show ((dL ts).canLay0 && decide ((dL ts).depth ≤ 64)) = true
  rw [Bool.and_eq_true, decide_eq_true_eq]
  exact ⟨by simp only [dL, PyData.canLay0]; exact lay_tups ts, by have := depth_tups ts; simp only [dL, PyData.depth]; omega⟩
theorem eqv_ints : ∀ a b : List Int, PyData.eqvAll (a.map PyData.int) (b.map PyData.int) = decide (a = b)
  | [], [] => by simp [PyData.eqvAll]
  | [], _ :: _ => by simp [PyData.eqvAll]
  | _ :: _, [] => by simp [PyData.eqvAll]
  | x :: a, y :: b => by
    simp only [List.map_cons, PyData.eqvAll, PyData.eqv, eqv_ints a b]
    by_cases h : x = y
    · subst h
      by_cases h2 : a = b
      · subst h2; simp
      · simp [h2]
    · simp [h]
theorem eqv_dT (a b : List Int) : PyData.eqv (dT a) (dT b) = decide (a = b) := by simp only [dT, PyData.eqv, eqv_ints]
theorem eqv_dI (a b : List Int) : PyData.eqv (dI a) (dI b) = decide (a = b) := by simp only [dI, PyData.eqv, eqv_ints]
theorem eqv_tups : ∀ a b : List (List Int), PyData.eqvAll (a.map dT) (b.map dT) = decide (a = b)
  | [], [] => by simp [PyData.eqvAll]
  | [], _ :: _ => by simp [PyData.eqvAll]
  | _ :: _, [] => by simp [PyData.eqvAll]
  | x :: a, y :: b => by
    simp only [List.map_cons, PyData.eqvAll, eqv_dT, eqv_tups a b]
    by_cases h : x = y
    · subst h
      by_cases h2 : a = b
      · subst h2; simp
      · simp [h2]
    · simp [h]
theorem eqv_dL (a b : List (List Int)) : PyData.eqv (dL a) (dL b) = decide (a = b) := by simp only [dL, PyData.eqv, eqv_tups]
theorem any_dT (t : List Int) (ts : List (List Int)) : ((ts.map dT).any fun z => PyData.eqv z (dT t)) = ts.contains t := by
  induction ts with
  | nil => rfl
  | cons u ts ih =>
    rw [List.map_cons, List.any_cons, ih, eqv_dT, List.contains_cons]
    congr 1
    rw [Bool.eq_iff_iff, decide_eq_true_eq, beq_iff_eq]
    exact eq_comm
def optV : Option Int → V
  | some i => .int i
  | none => .non
theorem optV_eq (o : Option Int) (l : Int) : decide (optV o = V.int l) = decide (o = some l) := by
  cases o with
  | none => rfl
  | some i => rw [Bool.eq_iff_iff]; simp [optV]
theorem optV_scal (o : Option Int) (l : Int) : scal (optV o) (.int l) = true := by cases o <;> rfl
def BlI (b : Bool) : VP := Is (.bl b)
instance {b : Bool} : Mono (BlI b) := ⟨fun _ h => h⟩
instance : Firm BlI := ⟨fun _ h => h⟩
section
variable {K : PySem.W.Frag} {H : Hp} {v : V}
theorem dp_ints : ∀ ns : List Int, DpAll K H (ns.map V.int) (ns.map PyData.int)
  | [] => .nil
  | n :: ns => .cons (.int n) (dp_ints ns)
theorem dp_lst {ns : List Int} (h : LstOf ns v H) : Dp K H v (dI ns) := by
  obtain ⟨t, rfl, e⟩ := h.get
  exact .lst (SqL.of e) (dp_ints ns)
theorem dp_tup {ns : List Int} (h : TupOf ns v H) : Dp K H v (dT ns) := by
  obtain ⟨t, rfl, e⟩ := h
  exact .tup (SqT.of e) (dp_ints ns)
theorem dp_lot {ts : List (List Int)} (h : LotOf ts v H) : Dp K H v (dL ts) := by
  obtain ⟨t, vs, rfl, e, r⟩ := h
  refine .lst (SqL.of e) ?_
  clear e
  induction r with
  | nil => exact .nil
  | cons r _ ih => exact .cons (dp_tup r) ih
theorem inV_ints (n : Int) : ∀ ns : List Int, inV (.int n) (ns.map V.int) = ns.contains n
  | [] => rfl
  | m :: ns => by
    have ih := inV_ints n ns
    unfold inV at ih ⊢
    rw [List.map_cons, List.any_cons, ih, List.contains_cons]
    congr 1
    show decide (m = n) = (n == m)
    rw [Bool.eq_iff_iff, decide_eq_true_eq, beq_iff_eq]
    exact eq_comm
theorem all2_bls : ∀ {bs : List Bool} {vs : List V}, All2 BlI H bs vs → vs = bs.map V.bl
  | [], _, .nil => rfl
  | b :: bs, _, .cons r t => by
    cases (show _ = V.bl b from r)
    rw [all2_bls t]
    rfl
end

/-! ### lists in another order -/
section
variable {α : Type} {R : α → VP} {H : Hp} {as : List α} {vs ws : List V}
theorem all2_perm (p : ws.Perm vs) : ∀ {as : List α}, All2 R H as vs → ∃ bs, bs.Perm as ∧ All2 R H bs ws := by
  induction p with
  | nil => intro as h; exact ⟨as, .refl _, h⟩
  | cons x _ ih =>
    intro as h
    cases h with
    | cons r t =>
      obtain ⟨bs, p, q⟩ := ih t
      exact ⟨_, p.cons _, .cons r q⟩
  | swap x y l =>
    intro as h
    cases h with
    | cons r t =>
      cases t with
      | cons r2 t => exact ⟨_, .swap _ _ _, .cons r2 (.cons r t)⟩
  | trans _ _ ih1 ih2 =>
    intro as h
    obtain ⟨bs, p, q⟩ := ih2 h
    obtain ⟨cs, p2, q2⟩ := ih1 q
    exact ⟨cs, p2.trans p, q2⟩
theorem All2.mem (h : All2 R H as vs) : ∀ x ∈ vs, ∃ a ∈ as, R a x H := by
  induction h with
  | nil => intro x hx; cases hx
  | cons r _ ih =>
    intro x hx
    rcases List.mem_cons.mp hx with e | hx
    · exact ⟨_, List.mem_cons_self, e ▸ r⟩
    · obtain ⟨a, ha, ra⟩ := ih x hx
      exact ⟨a, List.mem_cons_of_mem _ ha, ra⟩
theorem All2.mem' (h : All2 R H as vs) : ∀ a ∈ as, ∃ x ∈ vs, R a x H := by
  induction h with
  | nil => intro x hx; cases hx
  | cons r _ ih =>
    intro x hx
    rcases List.mem_cons.mp hx with e | hx
    · exact ⟨_, List.mem_cons_self, e ▸ r⟩
    · obtain ⟨a, ha, ra⟩ := ih x hx
      exact ⟨a, List.mem_cons_of_mem _ ha, ra⟩
theorem all2_pairwise {S : V → V → Prop} {T : α → α → Prop} (h : All2 R H as vs) (p : vs.Pairwise S) (f : ∀ a b x y, R a x H → R b y H → S x y → T a b) : as.Pairwise T := by
  induction h with
  | nil => exact .nil
  | cons r t ih =>
    obtain ⟨p1, p2⟩ := List.pairwise_cons.mp p
    refine List.pairwise_cons.mpr ⟨fun b hb => ?_, ih p2⟩
    obtain ⟨y, hy, ry⟩ := t.mem' b hb
    exact f _ _ _ _ r ry (p1 y hy)
end

/-! ### more expressions -/
section
variable {K : PySem.W.Frag} {σ : L2.St} {H : Hp} {ta tb : TE} {PA PB : VP}
theorem ev_eqD [Mono PA] {d e : PyData} (ha : Ev ta σ H PA) (hb : Ev tb σ H PB) (h1 : ∀ x H1, PA x H1 → Dp K H1 x d) (h2 : ∀ x H1, PB x H1 → Dp K H1 x e) (s1 : SeqAt.shaped d = true) (s2 : SeqAt.shaped e = true) :
    Ev (tOp (rEqD K) ta tb) σ H (Is (.bl (PyData.eqv d e))) := ev_op ha hb fun x y H1 _ p1 p2 Q k => ⟨d, e, h1 x H1 p1, h2 y H1 p2, s1, s2, k _ _ (Same.refl _) rfl⟩
theorem ev_neD [Mono PA] {d e : PyData} (ha : Ev ta σ H PA) (hb : Ev tb σ H PB) (h1 : ∀ x H1, PA x H1 → Dp K H1 x d) (h2 : ∀ x H1, PB x H1 → Dp K H1 x e) (s1 : SeqAt.shaped d = true) (s2 : SeqAt.shaped e = true) :
    Ev (tOp (rNeD K) ta tb) σ H (Is (.bl (!PyData.eqv d e))) := ev_op ha hb fun x y H1 _ p1 p2 Q k => ⟨d, e, h1 x H1 p1, h2 y H1 p2, s1, s2, k _ _ (Same.refl _) rfl⟩
theorem ev_eqTT {a b : List Int} (ha : Ev ta σ H (TupOf a)) (hb : Ev tb σ H (TupOf b)) : Ev (tOp (rEqD K) ta tb) σ H (Is (.bl (decide (a = b)))) := (ev_eqD ha hb (fun _ _ h => dp_tup h) (fun _ _ h => dp_tup h) (shaped_dT _) (shaped_dT _)).is (by rw [eqv_dT])
theorem ev_neTT {a b : List Int} (ha : Ev ta σ H (TupOf a)) (hb : Ev tb σ H (TupOf b)) : Ev (tOp (rNeD K) ta tb) σ H (Is (.bl (!decide (a = b)))) := (ev_neD ha hb (fun _ _ h => dp_tup h) (fun _ _ h => dp_tup h) (shaped_dT _) (shaped_dT _)).is (by rw [eqv_dT])
theorem ev_eqII {a b : List Int} (ha : Ev ta σ H (LstOf a)) (hb : Ev tb σ H (LstOf b)) : Ev (tOp (rEqD K) ta tb) σ H (Is (.bl (decide (a = b)))) := (ev_eqD ha hb (fun _ _ h => dp_lst h) (fun _ _ h => dp_lst h) (shaped_dI _) (shaped_dI _)).is (by rw [eqv_dI])
theorem ev_neII {a b : List Int} (ha : Ev ta σ H (LstOf a)) (hb : Ev tb σ H (LstOf b)) : Ev (tOp (rNeD K) ta tb) σ H (Is (.bl (!decide (a = b)))) := (ev_neD ha hb (fun _ _ h => dp_lst h) (fun _ _ h => dp_lst h) (shaped_dI _) (shaped_dI _)).is (by rw [eqv_dI])
theorem ev_eqLL {a b : List (List Int)} (ha : Ev ta σ H (LotOf a)) (hb : Ev tb σ H (LotOf b)) : Ev (tOp (rEqD K) ta tb) σ H (Is (.bl (decide (a = b)))) := (ev_eqD ha hb (fun _ _ h => dp_lot h) (fun _ _ h => dp_lot h) (shaped_dL _) (shaped_dL _)).is (by rw [eqv_dL])
theorem ev_neLL {a b : List (List Int)} (ha : Ev ta σ H (LotOf a)) (hb : Ev tb σ H (LotOf b)) : Ev (tOp (rNeD K) ta tb) σ H (Is (.bl (!decide (a = b)))) := (ev_neD ha hb (fun _ _ h => dp_lot h) (fun _ _ h => dp_lot h) (shaped_dL _) (shaped_dL _)).is (by rw [eqv_dL])
theorem ev_inTL {t : List Int} {ts : List (List Int)} (ha : Ev ta σ H (TupOf t)) (hb : Ev tb σ H (LotOf ts)) : Ev (tOp (rInD K) ta tb) σ H (Is (.bl (ts.contains t))) :=
  ev_op ha hb fun x y H1 _ p1 p2 Q k => ⟨dT t, ts.map dT, dp_tup p1, dp_lot p2, shaped_dT _, shaped_dL _, k _ _ (Same.refl _) (by rw [any_dT]; rfl)⟩
theorem ev_notInI {n : Int} {ns : List Int} (ha : Ev ta σ H (Is (.int n))) (hb : Ev tb σ H (LstOf ns)) : Ev (tOp (rIn K true) ta tb) σ H (Is (.bl (!ns.contains n))) :=
  ev_op ha hb fun x y H1 _ p1 p2 Q k => by
    cases p1
    obtain ⟨t, rfl, e⟩ := p2.get
    refine ⟨t, _, rfl, .inl (SqL.of e), rfl, ?_, k _ _ (Same.refl _) ?_⟩
    · rw [List.all_map, List.all_eq_true]
      intro _ _
      rfl
    · show V.bl (!inV (.int n) (ns.map V.int)) = _
      rw [inV_ints]
theorem ev_sortI {ns : List Int} (h : Ev ta σ H (LstOf ns)) : Ev (tCB (rSortedI K) (tCons ta tNil)) σ H (LstOf (sortI ns)) := ev_cb (ea_cons h ea_nil) fun vs H1 _ p Q k => by
  obtain ⟨v, r, rfl, q, rfl⟩ := p
  obtain ⟨t, rfl, e⟩ := q.get
  refine ⟨t, ns, rfl, SqL.of e, fun ns' p hp hs np => k _ _ (same_new np) ?_⟩
  rw [← sortI_eq hp hs]
  exact LstOf.mk upd_same
theorem ev_sortT {d : Nat} {ts : List (List Int)} (h : Ev ta σ H (LotOf ts)) (h64 : ts.length < 64) (ok : ts.all (okT d) = true) : Ev (tCB (rSortU K d 256) (tCons ta tNil)) σ H (LotOf (sortT ts)) := ev_cb (ea_cons h ea_nil) fun vs H1 _ p Q k => by
  obtain ⟨v, r, rfl, q, rfl⟩ := p
  obtain ⟨t, xs, rfl, e, r⟩ := q
  have tupI : ∀ {ns : List Int} {x : V}, TupOf ns x H1 → TupI K H1 x ns := fun ⟨t, e, h⟩ => ⟨t, e, SqT.of h⟩
  refine ⟨t, xs, rfl, SqL.of e, by rw [r.length]; exact h64, fun x hx => ?_, fun ys p hp hs np => ?_⟩
  · obtain ⟨ns, hn, rn⟩ := r.mem x hx
    obtain ⟨o1, o2⟩ := okT_iff (List.all_eq_true.mp ok ns hn)
    exact ⟨ns, tupI rn, by omega, o2⟩
  · obtain ⟨us, pu, ru⟩ := all2_perm hp r
    have su : us.Pairwise (fun a b => TS.code 256 a ≤ TS.code 256 b) := all2_pairwise ru hs fun a b x y ra rb s => s a b (tupI ra) (tupI rb)
    rw [← sortT_eq ok pu su] at k
    exact k _ _ (same_new np) ⟨p, ys, rfl, upd_same, ru.up (same_new np)⟩
theorem ev_tupOf {ns : List Int} (h : Ev ta σ H (LstOf ns)) :
    Ev (tCB (fun xs H Q => ∃ p ys, xs = [.ref p] ∧ ((SqL K H p ys ∧ ∀ l, H l = none → Q (.ref l) (upd H l (.tup ys))) ∨ (SqT K H p ys ∧ Q (.ref p) H))) (tCons ta tNil)) σ H (TupOf ns) := ev_cb (ea_cons h ea_nil) fun vs H1 _ p Q k => by
  obtain ⟨v, r, rfl, q, rfl⟩ := p
  obtain ⟨t, rfl, e⟩ := q.get
  exact ⟨t, _, rfl, .inl ⟨SqL.of e, fun l nl => k _ _ (same_new nl) ⟨l, rfl, upd_same⟩⟩⟩
theorem ev_all {bs : List Bool} (h : Ev ta σ H (SeqOf BlI bs)) : Ev (tCB (rAll K) (tCons ta tNil)) σ H (Is (.bl (bs.all id))) := ev_cb (ea_cons h ea_nil) fun vs H1 _ p Q k => by
  obtain ⟨v, r, rfl, q, rfl⟩ := p
  obtain ⟨t, xs, rfl, e, r⟩ := q
  rw [all2_bls r] at e
  exact ⟨t, bs, rfl, SqL.of e, k _ _ (Same.refl _) rfl⟩
theorem rgV_rng (n : Int) : rgV 0 n = (rng 0 n).map V.int := by
  unfold rgV rng
  rw [List.map_map]
  rfl
theorem ev_listRg {n : Int} (h : Ev ta σ H (Is (.int n))) (h0 : 0 ≤ n) (h1 : n ≤ 1000000) : Ev (tLstRg (tRg1 ta)) σ H (LstOf (rng 0 n)) := fun H1 e Q q => h H1 e _ fun v H2 e2 p => by
  cases p
  refine ⟨n, rfl, RgOk.of_le (by omega) (by omega) (by omega) h0, fun l nl => q _ _ (e2.trans (same_new nl)) ?_⟩
  rw [rgV_rng]
  exact LstOf.mk upd_same
end
end Fs

/-! sorted(t), t a tuple of ints: the items are collected, then sorted as a new list. -/
namespace Fs
open PySem PySem.Spec PyProof.Rows L2
section
variable {prog : Program} {w : World} {A : Around} {E : Value → Shared → Prop} {s : Shared} {l : Addr} {vs : List Value} {ns : List Int}
/-- the items of a tuple come, and the heap has only grown -/
theorem tup_collected {Q : List Value → Shared → Prop} (ht : IsTup s.heap l vs.toArray) (hz : vs.length ≤ sizeLine)
    (k : ∀ g : Heap, (∀ b o, s.heap.get? b = some o → g.get? b = some o) → s.heap.objs.size ≤ g.objs.size → Q vs { s with heap := g }) : wpAny (model prog w) A (collect (.ref l)) Q E s := by
  obtain ⟨ob, e1, e2, m, e3⟩ := ht
  have old : ∀ b u, s.heap.get? b = some u → (s.heap.push (seqObj "list" #[] 0)).get? b = some u := fun _ _ q => Heap.get?_push_of_some _ q
  have top : (s.heap.push (seqObj "list" #[] 0)).get? s.heap.objs.size = some (seqObj "list" #[] 0) := Heap.get?_push_size _ rfl
  have more : ∀ b u, s.heap.get? b = some u → ((s.heap.push (seqObj "list" #[] 0)).update s.heap.objs.size (Obj.mapSeq (· ++ vs.toArray))).get? b = some u := fun b u q =>
    (Heap.get?_update_ne _ _ _ _ (Nat.ne_of_lt (Heap.lt_size q))).trans (old b u q)
  have isT : (Builtin.List.listSameRef (.ref s.heap.objs.size) (.ref l) || Value.type "tuple" == Value.type "list" || Value.type "tuple" == Value.type "tuple") = true := by
    rw [show (Value.type "tuple" == Value.type "tuple") = true from rfl, Bool.or_true]
  have wide : (#[] ++ vs.toArray : Array Value).size ≤ sizeLine + 1 := by
    rw [Array.size_append]
    show 0 + vs.length ≤ sizeLine + 1
    omega
  have back : ((#[] : Array Value) ++ vs.toArray).toList = vs := by simp
  unfold collect
  refine wpAny_bind (wpAny_runValue (codeAny_builtin entry_proto_collect' (?_ : wpAny _ _ (newList [] >>= fun l' => again (.builtin "list.__iadd__" ⟨[l', .ref l], []⟩)) _ _ s)))
  refine wpAny_bind (wpAny_newList (wpAny_pure ⟨Code.quiet_builtin _ (by decide +kernel), codeAny_builtin entry_list_iadd' (?_ : wpAny _ _ (Builtin.List.listExtendWith (.ref s.heap.objs.size) (.ref l) (.ref s.heap.objs.size)) _ _ _)⟩))
  rw [Builtin.List.listExtendWith]
  refine wpAny_bind (wpAny_typeOf (T := "tuple") ⟨ob, old _ _ e1, e2⟩ ?_)
  rw [if_pos isT]
  refine wpAny_bind (listItems_at (old _ _ e1) e3 (wpAny_bind (listItems_at (xs := #[]) (n := 0) top rfl ?_)))
  rw [if_neg (by simp)]
  refine wpAny_bind (listUpdate_at (xs := #[]) (n := 0) top rfl (wpAny_pure ?_) (Nat.zero_le _) wide)
  refine wpAny_bind (wpAny_load (get?_update_seq top _) (?_ : wpAny _ _ (pure ((#[] : Array Value) ++ vs.toArray).toList) Q E _))
  rw [back]
  exact wpAny_pure (k _ more (by rw [Heap.size_update, size_push']; exact Nat.le_succ _))
theorem tup_sorted {Q : Value → Shared → Prop} (ht : IsTup s.heap l vs.toArray) (hz : vs.length ≤ sizeLine) (hi : IntsAre vs ns)
    (k : ∀ (g : Heap) (p : Addr) (out : List Value) (ms : List Int) (e : Nat), (∀ b o, s.heap.get? b = some o → g.get? b = some o) → s.heap.objs.size ≤ p → g.get? p = some (seqObj "list" out.toArray e) → IntsAre out ms → ms.Perm ns → ms.Pairwise (· ≤ ·) → Q (.ref p) { s with heap := g }) :
    wpAny (model prog w) A (call (.builtin "sorted") [.ref l]) Q E s := by
  refine Calls.call_function_entry kind_sorted plain_sorted entry_sorted (args_sorted1 _) (?_ : wpAny _ _ (Builtin.«sorted» _) _ _ _)
  rw [Builtin.«sorted»]
  refine wpAny_bind (m := checkCount "sorted" 1 1 _) (wpAny_pure (wpAny_bind (tup_collected ht hz fun g gk sg => wpAny_bind (wpAny_newList ?_ hz))))
  have top : (g.push (seqObj "list" vs.toArray 0)).get? g.objs.size = some (seqObj "list" vs.toArray 0) := Heap.get?_push_size _ rfl
  refine wpAny_bind (wpAny_holding (wpAny_call_entry slot_list_sort ⟨_, top, rfl⟩ entry_list_sort
    (SrtO.list_sort_ord SrtO.swo_int top hz (fun h2 => SrtO.ints_sortable hi h2) fun out o1 o2 => ⟨_, rfl, wpAny_pure ⟨_, rfl, ?_⟩⟩) (args_list_sort _)))
  obtain ⟨k1, k2, k3⟩ := SrtO.ints_out hi o1 o2
  obtain ⟨e, he⟩ := sortedHeap_at (vs := vs) (out := out.toArray) top
  refine k _ _ out _ e (fun b u q => ?_) sg he k1 k2 k3
  have lt := Heap.lt_size (gk _ _ q)
  refine (sortedHeap_old (Nat.ne_of_lt lt) ?_).trans (Heap.get?_push_of_some _ (gk _ _ q))
  rw [size_push']
  exact Nat.lt_succ_of_lt lt
end
def rSortedTI (K : PySem.W.Frag) : List V → Hp → VK → Prop := fun vs H Q => ∃ (a : Addr) (ns : List Int), vs = [V.ref a] ∧ SqT K H a (ns.map V.int) ∧
  ∀ (ms : List Int) (p : Addr), ms.Perm ns → ms.Pairwise (· ≤ ·) → H p = none → Q (.ref p) (upd H p (.lst (ms.map V.int)))
theorem cr_sortedTI {X : Cx} : CallR X (.builtin "sorted") (rSortedTI X.K) := by
  intro pins s σ H vs us Q I r ⟨a, ns, ev, hs, q⟩
  subst ev
  obtain ⟨its, rv, hl, hz⟩ := I.tuple hs
  rw [Vals.ref1 r]
  refine tup_sorted hl (rv.length ▸ hz) rv.ints fun g p out ms e gk hp he hi hperm hpw => ?_
  refine ⟨.ref p, upd H p (.lst (ms.map V.int)), I.laid (t' := s.toks) gk hp ⟨?_, out, e, vals_of_ints hi, he⟩, rfl, q ms p hperm hpw (I.hok.fresh hp)⟩
  rw [List.length_map] at hz ⊢
  rw [hperm.length_eq]
  exact hz
theorem ev_sortTI {K : PySem.W.Frag} {σ : L2.St} {H : Hp} {ta : TE} {ns : List Int} (h : Ev ta σ H (TupOf ns)) : Ev (tCB (rSortedTI K) (tCons ta tNil)) σ H (LstOf (sortI ns)) := ev_cb (ea_cons h ea_nil) fun vs H1 _ p Q k => by
  obtain ⟨v, r, rfl, ⟨t, rfl, e⟩, rfl⟩ := p
  refine ⟨t, ns, rfl, SqT.of e, fun ms p hp hs np => k _ _ (same_new np) ?_⟩
  rw [← sortI_eq hp hs]
  exact LstOf.mk upd_same
end Fs

/-! The text by its places; the program's first defs. -/
namespace Fs
open PySem PySem.Spec PyProof.Rows L2

/-! ### the text -/
def topS (i : Nat) : Stmt := PySem.Challenge.pw_echowords_k44_whole_fixed_sets.main.body.getD i (.Pass ⟨0, 0, 0, 0⟩)

/-- a def of the text, where it stands -/
structure There (K : PySem.W.Frag) (mg : Str → Option Value) (x : Str) (st : Stmt) (ps : List Str) : Prop where
  ex : ∃ (f : Addr) (fd : FuncData), Fun K x x st f fd ∧ mg x = some (.ref f) ∧ Binds K fd ps []
/-- a def that keeps a promise, by its name -/
structure Fn (P : Program) (w : World) (K : PySem.W.Frag) (mg : Str → Option Value) (base : Heap) (k : Nat) (x : Str) (ps : List Str) (sp : Sp) : Prop where
  ex : ∃ (f : Addr) (fd : FuncData), mg x = some (.ref f) ∧ PySem.W.keepIn K (.ref f) = true ∧ Binds K fd ps [] ∧ FnOk P w K mg base CX0 k f fd ps sp
section
variable {P : Program} {w : World} {K : PySem.W.Frag} {mg : Str → Option Value} {base : Heap}
theorem Fn.mono {j k : Nat} {x : Str} {ps : List Str} {sp : Sp} (F : Fn P w K mg base j x ps sp) (h : j ≤ k) : Fn P w K mg base k x ps sp := by
  obtain ⟨f, fd, a, b, c, d⟩ := F.ex
  exact ⟨f, fd, a, b, c, d.mono h⟩
theorem There.fn {x : Str} {st : Stmt} {ps : List Str} {k : Nat} {sp : Sp} (T : There K mg x st ps) (h : ∀ (f : Addr) (fd : FuncData), Fun K x x st f fd → FnOk P w K mg base CX0 k f fd ps sp) : Fn P w K mg base k x ps sp := by
  obtain ⟨f, fd, a, b, c⟩ := T.ex
  exact ⟨f, fd, b, a.kp, c, h f fd a⟩
end
/-- f(e, ..) of such a def -/
theorem pe_fn {X : Cx} {k : Nat} {x : Str} {ps : List Str} {sp : Sp} {e : Expr} {es : List Expr} {t : TA} {p pos : Pos} (F : Fn X.prog X.w X.K X.mg X.base k x ps sp) (hr : Room k X.A) (hg : Gl X x) (ha : PA X (e :: es) t) (hdb : (x == ("__debug__" : Str)) = false := by decide)
    (he : starEach (e :: es) X.env = (false, eval e X.env) :: starEach es X.env := by rfl) (hpl : (backTo pos (starEach es X.env)).any (·.1) = false := by rfl) (hx : Passes CX0 X E0 := by exact pass0) : PE X (.Call (.Name x p) (e :: es) [] pos) (tCall sp [] E0 t) := by
  obtain ⟨f, fd, a, b, c, d⟩ := F.ex
  exact pe_call d hr hg a b c .nil hx ha hdb he hpl
theorem room_units {X : Cx} {k : Nat} (hr : Room k X.A) : X.A.units + 64 < cLine := hr.units

/-! ### the end of a def's reading -/
section
variable {P : Program} {w : World} {K : PySem.W.Frag} {mg : Str → Option Value} {base : Heap} {k : Nat}

/-! ### is_int, is_in -/
abbrev sIsInt : Stmt := topS 6
theorem scIsInt : FnScope ["value"] ["value"] (defScope sIsInt) := ⟨rfl, rfl, rfl, by decide +kernel, rfl, by decide +kernel, by decide +kernel⟩
def spIsInt : Sp := fun vs H Q _ => ∃ i, vs = [.int i] ∧ Q (.bl true) H
theorem fn_isInt (T : There K mg "is_int" sIsInt ["value"]) (m1 : mg "isinstance" = none) (m2 : mg "int" = none) (m3 : mg "bool" = none) : Fn P w K mg base (k + 1) "is_int" ["value"] spIsInt := by
  refine T.fn fun f fd F => F.ok scIsInt (fun vs H Q E h => ?_) (fun cdv A outer s H vs Q E hr h => ?_)
  · obtain ⟨i, rfl, _⟩ := h
    rfl
  · obtain ⟨i, rfl, q⟩ := h
    refine ⟨_, pss_one (ps_ret (pe_and (pe_callB call_isi (by rfl) m1 boot_isinstance (pa_cons (pv 0) (pa_cons (pe_bltn (v := .ty "int") (by rfl) m2 (by decide +kernel) rfl) pa_nil)))
      (pe_one (pe_not (pe_callB call_isi (by rfl) m1 boot_isinstance (pa_cons (pv 0) (pa_cons (pe_bltn (v := .ty "bool") (by rfl) m3 (by decide +kernel) rfl) pa_nil))))))), ?_⟩
    refine ⟨_, rfl, _, _, _, _, true, rfl, .ty "int", .base (.int i), kit_ty (by decide +kernel), true, rfl, ?_⟩
    exact ⟨_, rfl, _, _, _, _, false, rfl, .ty "bool", .base (.int i), kit_ty (by decide +kernel), false, rfl, q⟩

abbrev sIsIn : Stmt := topS 7
theorem scIsIn : FnScope ["value", "least", "most"] ["value", "least", "most"] (defScope sIsIn) := ⟨rfl, rfl, rfl, by decide +kernel, rfl, by decide +kernel, by decide +kernel⟩
def spIsIn : Sp := fun vs H Q _ => ∃ i lo hi, vs = [.int i, .int lo, .int hi] ∧ lo ≤ i ∧ i ≤ hi ∧ Q (.bl true) H
theorem fn_isIn (T : There K mg "is_in" sIsIn ["value", "least", "most"]) (G : Fn P w K mg base k "is_int" ["value"] spIsInt) : Fn P w K mg base (k + 1) "is_in" ["value", "least", "most"] spIsIn := by
  refine T.fn fun f fd F => F.ok scIsIn (fun vs H Q E h => ?_) (fun cdv A outer s H vs Q E hr h => ?_)
  · obtain ⟨i, lo, hi, rfl, _⟩ := h
    rfl
  · obtain ⟨i, lo, hi, rfl, h1, h2, q⟩ := h
    refine ⟨_, pss_one (ps_ret (pe_and (pe_fn G hr (by rfl) (pa_cons (pv 0) pa_nil)) (pe_one (pe_chain op_le op_le (pv 1) (pv 0) (pv 2))))), ?_⟩
    refine ⟨_, rfl, i, rfl, true, rfl, ?_⟩
    refine ⟨_, rfl, _, rfl, lo, i, rfl, rfl, _, rfl, ?_⟩
    rw [decide_eq_true h1, if_pos rfl]
    refine ⟨_, rfl, i, hi, rfl, rfl, ?_⟩
    show Q (.bl (decide (i ≤ hi))) H
    rw [decide_eq_true h2]
    exact q

/-! ### common_divisor -/
abbrev sGcd : Stmt := topS 8
theorem scGcd : FnScope ["one", "other"] ["one", "other"] (defScope sGcd) := ⟨rfl, rfl, rfl, by decide +kernel, rfl, by decide +kernel, by decide +kernel⟩
def spGcd : Sp := fun vs H Q _ => ∃ n a b g, vs = [.int a, .int b] ∧ 0 ≤ b ∧ gcdG n a b = some g ∧ Q (.int g) H
theorem fn_gcd (T : There K mg "common_divisor" sGcd ["one", "other"]) : Fn P w K mg base (k + 1) "common_divisor" ["one", "other"] spGcd := by
  refine T.fn fun f fd F => F.ok scGcd (fun vs H Q E h => ?_) (fun cdv A outer s H vs Q E hr h => ?_)
  · obtain ⟨n, a, b, g, rfl, _⟩ := h
    rfl
  · obtain ⟨n, a, b, g, rfl, h0, hg, q⟩ := h
    refine ⟨_, pss_cons (ps_while PassesOwn.never (pt_cmpR op_ne (pv 1) pe_int (nomark _)) (pss_one (ps_par (i := 0) (j := 1) rfl scGcd.nd rfl rfl (by decide) rfl rfl (pa_cons (pv 1) (pa_cons (pe_op op_mod (pv 0) (pv 1)) pa_nil)) (by rfl))))
      (pss_one (ps_ret (pv 0))), ?_⟩
    refine ⟨fun m σ H' => ∃ a b, σ = [some (.int a), some (.int b)] ∧ H' = H ∧ 0 ≤ b ∧ gcdG m a b = some g, ⟨n, a, b, rfl, rfl, h0, hg⟩, ?_⟩
    rintro m σ H' ⟨a, b, rfl, rfl, hb, hm⟩
    cases m with
    | zero => cases hm
    | succ m =>
      unfold gcdG at hm
      refine ⟨_, rfl, rfl, _, rfl, ?_⟩
      by_cases e : b = 0
      · subst e
        rw [if_pos rfl] at hm
        cases hm
        exact ⟨_, rfl, q⟩
      · rw [if_neg e] at hm
        have hd : (!decide (V.int b = V.int 0)) = true := by
          rw [decide_eq_false (fun z => e (V.int.inj z))]
          rfl
        rw [hd, if_pos rfl]
        refine ⟨fun σ' H'' => ∃ a b, σ' = [some (.int a), some (.int b)] ∧ H'' = H' ∧ 0 ≤ b ∧ gcdG m a b = some g, fun σ' H'' w' => ⟨m, Nat.lt_succ_self _, w'⟩, ?_⟩
        exact ⟨_, rfl, _, rfl, _, rfl, _, _, rfl, rfl, (by omega), _, _, rfl, b, a % b, rfl, rfl, Int.emod_nonneg _ e, hm⟩

/-! ### need_modulus, need_sizes -/
abbrev sNeedM : Stmt := topS 12
theorem scNeedM : FnScope ["value"] ["value"] (defScope sNeedM) := ⟨rfl, rfl, rfl, by decide +kernel, rfl, by decide +kernel, by decide +kernel⟩
def spNeedM : Sp := fun vs H Q _ => ∃ m, vs = [.int m] ∧ 1 ≤ m ∧ m ≤ 200 ∧ Q .non H
theorem fn_needM (T : There K mg "need_modulus" sNeedM ["value"]) (G : Fn P w K mg base k "is_in" ["value", "least", "most"] spIsIn) (mM : ∃ t, mg "MOST_MODULUS" = some (.int 200 t)) : Fn P w K mg base (k + 1) "need_modulus" ["value"] spNeedM := by
  obtain ⟨tk, mM⟩ := mM
  refine T.fn fun f fd F => F.ok scNeedM (fun vs H Q E h => ?_) (fun cdv A outer s H vs Q E hr h => ?_)
  · obtain ⟨m, rfl, _⟩ := h
    rfl
  · obtain ⟨m, rfl, h1, h2, q⟩ := h
    refine ⟨_, pss_one (ps_if (pt_not (pt_val (pe_fn G hr (by rfl) (pa_cons (pv 0) (pa_cons pe_int (pa_cons (pe_glob (v := .int 200) rfl mM ⟨tk, rfl⟩) pa_nil)))))) pss_never pss_nil), ?_⟩
    exact ⟨_, rfl, m, 1, 200, rfl, h1, h2, true, rfl, q⟩
abbrev sNeedS : Stmt := topS 15
theorem scNeedS : FnScope ["modulus", "size", "often"] ["modulus", "size", "often"] (defScope sNeedS) := ⟨rfl, rfl, rfl, by decide +kernel, rfl, by decide +kernel, by decide +kernel⟩
def spNeedS : Sp := fun vs H Q _ => ∃ m k l, vs = [.int m, .int k, .int l] ∧ (1 ≤ m ∧ m ≤ 200) ∧ (0 ≤ k ∧ k ≤ m) ∧ (0 ≤ l ∧ l ≤ m) ∧ Q .non H
theorem fn_needS (T : There K mg "need_sizes" sNeedS ["modulus", "size", "often"]) (G : Fn P w K mg base k "is_in" ["value", "least", "most"] spIsIn) (GM : Fn P w K mg base k "need_modulus" ["value"] spNeedM) : Fn P w K mg base (k + 1) "need_sizes" ["modulus", "size", "often"] spNeedS := by
  refine T.fn fun f fd F => F.ok scNeedS (fun vs H Q E h => ?_) (fun cdv A outer s H vs Q E hr h => ?_)
  · obtain ⟨m, k, l, rfl, _⟩ := h
    rfl
  · obtain ⟨m, k, l, rfl, hm, hk, hl, q⟩ := h
    refine ⟨_, pss_cons (ps_expr (pe_fn GM hr (by rfl) (pa_cons (pv 0) pa_nil)))
      (pss_one (ps_if (PW.pt (pw_or (pt_not (pt_val (pe_fn G hr (by rfl) (pa_cons (pv 1) (pa_cons pe_int (pa_cons (pv 0) pa_nil))))))
        (pw_or1 (pt_not (pt_val (pe_fn G hr (by rfl) (pa_cons (pv 2) (pa_cons pe_int (pa_cons (pv 0) pa_nil))))))))) pss_never pss_nil)), ?_⟩
    refine ⟨_, rfl, m, rfl, hm.1, hm.2, ?_⟩
    refine ⟨_, rfl, _, rfl, k, 0, m, rfl, hk.1, hk.2, true, rfl, ?_⟩
    exact ⟨_, rfl, _, rfl, l, 0, m, rfl, hl.1, hl.2, true, rfl, q⟩
end
end Fs

/-! counts_of, common. -/
namespace Fs
open PySem PySem.Spec PyProof.Rows L2
theorem bump_len (m a : Int) (xs : List Int) (b : Int) : (bump m a xs b).length = xs.length := by unfold bump; rw [List.length_set]
theorem bumps_len (m a : Int) : ∀ (t xs : List Int), (t.foldl (bump m a) xs).length = xs.length
  | [], _ => rfl
  | b :: t, xs => by rw [List.foldl_cons, bumps_len m a t, bump_len]
theorem counts_len (m : Int) (u : List Int) : ∀ (t xs : List Int), (t.foldl (fun acc a => u.foldl (bump m a) acc) xs).length = xs.length
  | [], _ => rfl
  | b :: t, xs => by rw [List.foldl_cons, counts_len m u t, bumps_len]
theorem rep_ints (n : Nat) : (List.replicate n [V.int 0]).flatten = (List.replicate n (0 : Int)).map V.int := by
  induction n with
  | zero => rfl
  | succ n ih => rw [List.replicate_succ, List.replicate_succ, List.flatten_cons, ih]; rfl
theorem int_get {ns : List Int} {i : Nat} {x : V} (h : (ns.map V.int)[i]? = some x) : ∃ n, ns[i]? = some n ∧ x = .int n := by
  rw [List.getElem?_map] at h
  cases hc : ns[i]? with
  | none => rw [hc] at h; cases h
  | some b => rw [hc] at h; exact ⟨b, rfl, (Option.some.inj h).symm⟩
theorem foldl_take {α β : Type} {f : β → α → β} {l : List α} {i : Nat} {x : α} {b : β} (h : l[i]? = some x) : (l.take (i + 1)).foldl f b = f ((l.take i).foldl f b) x := by
  rw [List.take_add_one, h]
  show (l.take i ++ [x]).foldl f b = _
  rw [List.foldl_append]
  rfl
section
variable {P : Program} {w : World} {K : PySem.W.Frag} {mg : Str → Option Value} {base : Heap} {k : Nat}
def spCounts : Sp := fun vs H Q _ => ∃ m t x, vs = [.int m, x] ∧ (0 < m ∧ m ≤ 1000) ∧ TupOf t x H ∧ ∀ v H', Same H H' → LstOf (countsM m t) v H' → Q v H'
abbrev sCounts : Stmt := topS 13
theorem scCounts : FnScope ["modulus", "members", "found", "one", "other"] ["modulus", "members"] (defScope sCounts) := ⟨rfl, rfl, rfl, by decide +kernel, rfl, by decide +kernel, by decide +kernel⟩
theorem fn_counts (T : There K mg "counts_of" sCounts ["modulus", "members"]) : Fn P w K mg base (k + 1) "counts_of" ["modulus", "members"] spCounts := by
  refine T.fn fun f fd F => F.ok scCounts (fun vs H Q E h => ?_) (fun cdv A outer s H vs Q E hr h => ?_)
  · obtain ⟨m, t, x, rfl, _⟩ := h
    rfl
  · obtain ⟨m, t, x, rfl, hm, ⟨a, rfl, ha⟩, q⟩ := h
    refine ⟨_, pss_cons (ps_set (i := 2) scCounts.nd rfl (.inl rfl) (pe_op op_rep (pe_lst (pa_cons pe_int pa_nil)) (pv 0)))
      (pss_cons (ps_for PassesOwn.never rfl (pi_tup (pv 1)) (pg_name (i := 3) scCounts.nd rfl (.inl rfl))
        (pss_one (ps_for PassesOwn.never rfl (pi_tup (pv 1)) (pg_name (i := 4) scCounts.nd rfl (.inl rfl))
          (pss_one (ps_augS (pv 2) (pe_op op_mod (pe_op op_sub (pv 3) (pv 4)) (pv 0)) pget_nat pe_int ip_add set_list)))))
      (pss_one (ps_ret (pv 2)))), ?_⟩
    refine ⟨le_line (by decide), fun p0 n0 => ⟨_, rfl, p0, m, _, rfl, rfl, upd_same, by omega, by omega, ?_, fun p np => ?_⟩⟩
    · show 1 * m.toNat ≤ sizeLine
      exact le_line (by omega)
    have np' : H p = none := Same.free (same_new n0) np
    have s0 : Same H (upd (upd H p0 (.lst [V.int 0])) p (.lst (List.replicate m.toNat [V.int 0]).flatten)) := (same_new n0).trans (same_new np)
    refine ⟨_, rfl, a, rfl, ⟨_, SqT.of (s0 _ _ ha)⟩, for_tup (xs := t.map V.int) (fun i σ H' => ∃ y3 y4, σ = [some (.int m), some (.ref a), some (.ref p), y3, y4] ∧ Same H H' ∧ H' p = some (.lst (((t.take i).foldl (fun acc a => t.foldl (bump m a) acc) (List.replicate m.toNat 0)).map V.int)))
      ⟨none, none, rfl, s0, ?_⟩ (fun i σ H' _ ⟨_, _, _, sm, _⟩ => SqT.of (sm _ _ ha)) (fun i x σ H' hx hW => ?_) (fun σ H' hW => ?_)⟩
    · rw [upd_same, rep_ints]
      rfl
    · obtain ⟨y3, y4, rfl, sm, hp⟩ := hW
      obtain ⟨c, hc, rfl⟩ := int_get hx
      refine ⟨_, rfl, a, rfl, ⟨_, SqT.of (sm _ _ ha)⟩, for_tup (xs := t.map V.int) (fun j σ H' => ∃ y4, σ = [some (.int m), some (.ref a), some (.ref p), some (.int c), y4] ∧ Same H H' ∧ H' p = some (.lst (((t.take j).foldl (bump m c) ((t.take i).foldl (fun acc a => t.foldl (bump m a) acc) (List.replicate m.toNat 0))).map V.int)))
        ⟨y4, rfl, sm, hp⟩ (fun i σ H' _ ⟨_, _, sm, _⟩ => SqT.of (sm _ _ ha)) (fun j x σ H' hx hW => ?_) (fun σ H' hW => ?_)⟩
      · obtain ⟨y4, rfl, sm, hp⟩ := hW
        obtain ⟨d, hd, rfl⟩ := int_get hx
        generalize hcs : (t.take j).foldl (bump m c) ((t.take i).foldl (fun acc a => t.foldl (bump m a) acc) (List.replicate m.toNat 0)) = cs at hp
        have hl : cs.length = m.toNat := by
          rw [← hcs, bumps_len, counts_len, List.length_replicate]
        have h1 : 0 ≤ (c - d) % m := Int.emod_nonneg _ (by omega)
        have h2 : (c - d) % m < m := Int.emod_lt_of_pos _ hm.1
        obtain ⟨i0, ei⟩ : ∃ i0 : Nat, (c - d) % m = (i0 : Int) := ⟨_, (Int.toNat_of_nonneg h1).symm⟩
        have hi0 : i0 < cs.length := by omega
        refine ⟨_, rfl, _, rfl, _, rfl, c, d, rfl, rfl, _, rfl, _, m, rfl, rfl, hm.1, ?_⟩
        have g : cs[i0]? = some cs[i0] := List.getElem?_eq_getElem hi0
        refine ⟨p, _, i0, .int cs[i0], rfl, congrArg V.int ei, hp, by rw [List.getElem?_map, g]; rfl, cs[i0], 1, rfl, rfl, p, _, _, i0, rfl, rfl, hp, ?_, ?_⟩
        · rw [ei, List.length_map]
          unfold ixN
          rw [if_pos (by omega), if_pos (by omega)]
          rfl
        · refine ⟨_, rfl, same_mut sm np', ?_⟩
          rw [upd_same, foldl_take hd, hcs]
          unfold bump
          rw [ei, Int.toNat_natCast, List.getD_eq_getElem?_getD, g, List.map_set]
          rfl
      · obtain ⟨y4, rfl, sm, hp⟩ := hW
        refine ⟨_, _, rfl, sm, ?_⟩
        rw [List.length_map, List.take_length] at hp
        rw [hp, foldl_take hc]
    · obtain ⟨y3, y4, rfl, sm, hp⟩ := hW
      rw [List.length_map, List.take_length] at hp
      exact ⟨_, rfl, q _ _ sm (LstOf.mk hp)⟩

abbrev sCommon : Stmt := topS 14
abbrev nCommon : List Str := ["counts", "told", "count"]
theorem scCommon : FnScope nCommon ["counts"] (defScope sCommon) := ⟨rfl, rfl, rfl, by decide +kernel, rfl, by decide +kernel, by decide +kernel⟩
def spCommon : Sp := fun vs H Q _ => ∃ cs x, vs = [x] ∧ cs.length ≤ 1000 ∧ LstOf cs x H ∧ ∀ H', Same H H' → Q (optV (commonM cs)) H'
theorem cut1 {α : Type} (R : α → VP) (as : List α) (vs : List V) (H : Hp) (h : All2 R H as vs) : All2 R H (as.drop 1) (cutV vs (some 1) none) := by
  unfold cutV
  rw [show HT.sIx vs.length 0 (some 1) = min 1 vs.length from HT.sIx_nat vs.length 0 1, HT.sIx_none]
  cases h with
  | nil => exact .nil
  | @cons a as v vs r t =>
    rw [show min 1 (v :: vs).length = 1 by rw [List.length_cons]; omega]
    show All2 R H as (List.take ((v :: vs).length - 1) vs)
    rw [List.length_cons, Nat.add_sub_cancel, List.take_length]
    exact t
theorem fn_common (T : There K mg "common" sCommon ["counts"]) (ma : mg "all" = none) : Fn P w K mg base (k + 1) "common" ["counts"] spCommon := by
  refine T.fn fun f fd F => F.ok scCommon (fun vs H Q E h => ?_) (fun cdv A outer s H vs Q E hr h => ?_)
  · obtain ⟨cs, x, rfl, _⟩ := h
    rfl
  · obtain ⟨cs, x, rfl, hz, hx, q⟩ := h
    refine ⟨_, pss_cons (ps_set (i := 1) scCommon.nd rfl (.inr rfl) (pe_slice sl_list (pv 0) (po_some pe_int) po_none))
      (pss_one (ps_ret (pe_ifExp (PW.pt (pw_and (pt_cmpR (op_neD hr.units) (pv 1) (pe_lst pa_nil) (nomark _))
        (pw_and1 (pt_val (pe_callB (cr_all rfl) (by rfl) ma (by decide +kernel) (pa_cons
          (pe_lc (own := [("count", 2)]) (g := gName 2) (tt := tYes) rfl scCommon.nd (pi_list (pv 1)) (blkOk_by (N := nCommon) (sc := defScope sCommon) (by decide +kernel)) (fun _ _ _ _ _ => pg_name (i := 2) scCommon.nd rfl (Or.inl rfl)) (fun _ _ _ _ _ => pts_nil)
            (fun _ _ _ _ _ => pe_cmpR op_eq (pv 2) (pe_ix (r := rIxL K) ix_list (pv 1) pe_int (fun _ _ => rfl)) (nomark _))) pa_nil))))))
        (pe_ix ix_list (pv 1) pe_int (fun _ _ => rfl)) pe_non))), ?_⟩
    refine q_asg (ev_sliceL (ev_varP (P := LstOf cs) rfl hx) (fun H1 Q _ q => ⟨1, rfl, q H1 (Same.refl _)⟩) (fun H1 Q _ q => q H1 (Same.refl _)) (cs.drop 1) (fun vs H1 h => cut1 _ _ _ _ h)) fun v H1 s1 hv => ?_
    refine s_ret (P := Is (optV (commonM cs))) ?_ fun v H2 s2 hv2 => by
      cases hv2
      exact q _ (s1.trans s2)
    have hl : (cs.drop 1).length ≤ 1000 := Nat.le_trans (by rw [List.length_drop]; omega) hz
    unfold commonM
    generalize cs.drop 1 = ds at hv hl ⊢
    cases ds with
    | nil =>
      refine ev_if (b := false) ((et_and (b := false) (et_test (ev_neII (ev_varP rfl hv) ev_nil)) (fun e => by simp at e)).is (by simp)) (fun e => by cases e) fun _ => ev_c
    | cons c r =>
      refine ev_if (b := (c :: r).all fun d => decide (d = c)) ((et_and (b := (c :: r).all fun d => decide (d = c)) (et_test (ev_neII (ev_varP rfl hv) ev_nil)) (fun _ => ?_)).is (by simp)) (fun e => ?_) (fun e => ?_)
      · refine et_B ((ev_all (ev_lcL (RB := BlI) (c :: r) (fun _ => true) (fun d => decide (d = c)) (ev_varP rfl hv) (by omega) (fun _ => rfl) (fun _ _ _ _ _ _ => et_yes) fun a _ _ x H2 s2 hx2 => ?_)).is ?_)
        · cases hx2
          refine (ev_eq (ev_var rfl) (ev_ixL (R := IntI) (j := 0) (ev_varP rfl (Mono.up s2 hv)) rfl ev_c) rfl).is ?_
          congr 1
          rw [Bool.eq_iff_iff]
          simp
        · rw [List.filter_eq_self.mpr (fun _ _ => rfl), List.all_map]
          rfl
      · have e' : (c :: r).all (fun d => decide (d = c)) = true := e
        dsimp only
        rw [if_pos e']
        exact ev_ixL (R := IntI) (j := 0) (ev_varP rfl hv) rfl ev_c
      · have e' : (c :: r).all (fun d => decide (d = c)) = false := e
        dsimp only
        rw [if_neg (by rw [e']; exact Bool.false_ne_true)]
        exact ev_c
end
end Fs

/-! orbits_of. -/
namespace Fs
open PySem PySem.Spec PyProof.Rows L2
theorem rng_mem {lo hi x : Int} (h : x ∈ rng lo hi) : lo ≤ x ∧ x < hi := by
  unfold rng at h
  obtain ⟨i, hi', e⟩ := List.mem_map.mp h
  have := List.mem_range.mp hi'
  omega
theorem mul_ok {a b : Int} (h0 : 0 ≤ a) (h1 : a ≤ 1000000) : CMul a b := .inl ⟨by omega, by omega⟩
section
variable {P : Program} {w : World} {K : PySem.W.Frag} {mg : Str → Option Value} {base : Heap} {k : Nat}
abbrev sOrbits : Stmt := topS 16
abbrev nOrbits : List Str := ["modulus", "factor", "left", "found", "orbit", "at", "part"]
theorem scOrbits : FnScope nOrbits ["modulus", "factor"] (defScope sOrbits) := ⟨rfl, rfl, rfl, by decide +kernel, rfl, by decide +kernel, by decide +kernel⟩
def spOrbits : Sp := fun vs H Q _ => ∃ m f os, vs = [.int m, .int f] ∧ (1 ≤ m ∧ m ≤ 200) ∧ orbitsM m f = some os ∧ ∀ v H', Same H H' → LotOf os v H' → Q v H'
theorem fn_orbits (T : There K mg "orbits_of" sOrbits ["modulus", "factor"]) (m1 : mg "list" = none) (m2 : mg "range" = none) (m3 : mg "tuple" = none) (m4 : mg "sorted" = none) : Fn P w K mg base (k + 1) "orbits_of" ["modulus", "factor"] spOrbits := by
  refine T.fn fun f fd F => F.ok scOrbits (fun vs H Q E h => ?_) (fun cdv A outer s H vs Q E hr h => ?_)
  · obtain ⟨m, f, os, rfl, _⟩ := h
    rfl
  · obtain ⟨m, fc, os, rfl, hm, ho, q⟩ := h
    refine ⟨_, pss_cons (ps_par (i := 2) (j := 3) rfl scOrbits.nd rfl rfl (by decide) rfl rfl (pa_cons (pe_listRg rfl (by rfl) m1 (prg_1 (by rfl) m2 (pv 0))) (pa_cons (pe_lst pa_nil) pa_nil)) (by rfl))
      (pss_cons (ps_while PassesOwn.never (pt_cmpR (op_neD hr.units) (pv 2) (pe_lst pa_nil) (nomark _))
        (pss_cons (ps_asg (pe_tup (pa_cons (pe_lst (pa_cons (pe_ix ix_list (pv 2) pe_int (fun _ _ => rfl)) pa_nil)) (pa_cons (pe_op op_mod (pe_op op_mul (pe_ix ix_list (pv 2) pe_int (fun _ _ => rfl)) (pv 1)) (pv 0)) pa_nil)))
            (pg_tup rfl (pgs_cons (pg_name (i := 4) scOrbits.nd rfl (.inr rfl)) (pgs_cons (pg_name (i := 5) scOrbits.nd rfl (.inl rfl)) pgs_nil))))
        (pss_cons (ps_while PassesOwn.never (pt_cmpR op_ne (pv 5) (pe_ix ix_list (pv 2) pe_int (fun _ _ => rfl)) (nomark _))
            (pss_cons (ps_expr (pe_bm PySem.F.plainAttrs_list PySem.F.slot_list_append PySem.F.type_list_append mt_append (pv 4) (pa_cons (pv 5) pa_nil)))
            (pss_one (ps_set (i := 5) scOrbits.nd rfl (.inl rfl) (pe_op op_mod (pe_op op_mul (pv 5) (pv 1)) (pv 0))))))
        (pss_cons (ps_expr (pe_bm PySem.F.plainAttrs_list PySem.F.slot_list_append PySem.F.type_list_append mt_append (pv 3) (pa_cons (pe_callTy call_tuple_of (by rfl) m3 boot_tuple (pa_cons (pe_callB cr_sortedI (by rfl) m4 boot_sorted (pa_cons (pv 4) pa_nil)) pa_nil)) pa_nil)))
        (pss_one (ps_setLc (i := 2) (own := [("part", 6)]) (g := gName 6) rfl scOrbits.nd rfl rfl (sw_true rfl rfl rfl (by decide +kernel)) (pi_list (pv 2)) (blkOk_by (N := nOrbits) (sc := defScope sOrbits) (by decide +kernel)) (fun _ _ _ _ _ => pg_name (i := 6) scOrbits.nd rfl (Or.inl rfl))
            (fun _ _ _ _ _ => pts_one (pt_cmpR (r := rIn K true) op_notIn_seq (pv 6) (pv 4) rfl)) (fun _ _ _ _ _ => pv 6)))))))
      (pss_one (ps_ret (pv 3)))), ?_⟩
    -- left, found = list(range(modulus)), []
    refine q_par (ea_cons (P := LstOf (rng 0 m)) (ev_listRg (ev_var rfl) (by omega) (by omega)) (ea_cons (ev_newL [] ea_nil (by decide)) ea_nil)) fun vs H1 s1 hvs => ?_
    obtain ⟨_, _, rfl, hvl, _, _, rfl, ⟨fnd, rfl, nf0, hf⟩, rfl⟩ := hvs
    obtain ⟨l, rfl, hl⟩ := hvl.get
    have hne : l ≠ fnd := by
      rintro rfl
      rw [hl] at hf
      have e := congrArg List.length (HO.lst.inj (Option.some.inj hf))
      rw [List.length_map, rng_len] at e
      have e' : (m - 0).toNat = 0 := e
      omega
    refine ⟨_, _, rfl, ?_⟩
    refine ⟨fun n σ H' => ∃ (l : Addr) (left : List Int) (done : List (List Int)) (y4 y5 y6 : Option V), σ = [some (.int m), some (.int fc), some (.ref l), some (.ref fnd), y4, y5, y6] ∧ Same H H' ∧ H' l = some (.lst (left.map V.int)) ∧ l ≠ fnd ∧
        (∃ vs, H' fnd = some (.lst vs) ∧ All2 TupOf H' done vs) ∧ orbitsG m fc n left done = some os ∧ (∀ x ∈ left, 0 ≤ x ∧ x < m) ∧ left.length ≤ 200 ∧ done.length + n ≤ 256,
      ⟨256, l, rng 0 m, [], none, none, none, rfl, s1, hl, hne, ⟨[], hf, .nil⟩, ho, fun x hx => rng_mem hx, by rw [rng_len]; omega, Nat.le_refl _⟩, ?_⟩
    clear hl hf s1 hvl ho hne
    rintro n σ H1 ⟨l, left, done, y4, y5, y6, rfl, s1, hl, hne, ⟨ws, hf, rf⟩, hn, hb, hz, hd⟩
    show tTest _ _ _ _
    refine Et.go (b := !decide (left = [])) (et_test (ev_neII (ev_varP (P := LstOf left) rfl (LstOf.mk hl)) ev_nil)) fun H2 s2 => ?_
    cases left with
    | nil =>
      rw [if_neg (by simp)]
      have e : some done = some os := by
        cases n with
        | zero => exact hn
        | succ n => exact hn
      cases e
      exact ⟨_, rfl, q _ _ (s1.trans s2) ⟨fnd, ws, rfl, s2 _ _ hf, rf.up s2⟩⟩
    | cons a r =>
      rw [if_pos (by simp)]
      cases n with
      | zero => cases hn
      | succ n =>
      unfold orbitsG at hn
      have hl2 := s2 _ _ hl
      have hf2 := s2 _ _ hf
      have rf2 := rf.up s2
      have s02 := s1.trans s2
      obtain ⟨ha0, ha1⟩ := hb a List.mem_cons_self
      clear hl hf rf s1 s2
      refine ⟨fun σ H' => ∃ (l : Addr) (left : List Int) (done : List (List Int)) (y4 y5 y6 : Option V), σ = [some (.int m), some (.int fc), some (.ref l), some (.ref fnd), y4, y5, y6] ∧ Same H H' ∧ H' l = some (.lst (left.map V.int)) ∧ l ≠ fnd ∧
        (∃ vs, H' fnd = some (.lst vs) ∧ All2 TupOf H' done vs) ∧ orbitsG m fc n left done = some os ∧ (∀ x ∈ left, 0 ≤ x ∧ x < m) ∧ left.length ≤ 200 ∧ done.length + n ≤ 256, fun σ' H' w' => ⟨n, Nat.lt_succ_self _, w'⟩, ?_⟩
      -- orbit, at = [left[0]], left[0] * factor % modulus
      refine ⟨_, rfl, l, _, 0, .int a, rfl, rfl, SqL.of hl2, atI_nat (j := 0) rfl, le_line (by simp), fun o no => ?_⟩
      have s23 : Same H2 (upd H2 o (.lst [.int a])) := same_new no
      refine ⟨_, rfl, l, _, 0, .int a, rfl, rfl, SqL.of (s23 _ _ hl2), atI_nat (j := 0) rfl, ?_⟩
      refine ⟨_, rfl, a, fc, rfl, rfl, mul_ok ha0 (by omega), ?_⟩
      refine ⟨_, rfl, a * fc, m, rfl, rfl, (by omega), le_line (by simp), fun T nT => ?_⟩
      refine ⟨T, _, rfl, SqT.of upd_same, rfl, _, _, rfl, _, _, rfl, rfl, ?_⟩
      have s24 : Same H2 (upd (upd H2 o (.lst [.int a])) T (.tup [.ref o, .int (a * fc % m)])) := s23.trans (same_new nT)
      have hT : o ≠ T := ne_of_none upd_same nT
      -- while at != left[0]
      cases hg : orbitG m fc a 256 (a * fc % m) [a] with
      | none => rw [hg] at hn; cases hn
      | some orb =>
      rw [hg] at hn
      refine ⟨fun j σ H' => ∃ (at_ : Int) (acc : List Int), σ = [some (.int m), some (.int fc), some (.ref l), some (.ref fnd), some (.ref o), some (.int at_), y6] ∧ Same H2 H' ∧ H' o = some (.lst (acc.map V.int)) ∧ orbitG m fc a j at_ acc = some orb ∧ (0 ≤ at_ ∧ at_ < m) ∧ acc.length + j ≤ 257,
        ⟨256, a * fc % m, [a], rfl, s24, ?_, hg, ⟨Int.emod_nonneg _ (by omega), Int.emod_lt_of_pos _ (by omega)⟩, by simp⟩, ?_⟩
      · rw [upd_ne hT]
        exact upd_same
      clear hg hT s24 nT s23
      rintro j σ H3 ⟨at_, acc, rfl, s3, ho3, hg, hat, hj⟩
      refine ⟨_, rfl, _, rfl, l, _, 0, .int a, rfl, rfl, SqL.of (s3 _ _ hl2), atI_nat (j := 0) rfl, rfl, _, rfl, ?_⟩
      cases j with
      | zero => cases hg
      | succ j =>
      unfold orbitG at hg
      by_cases e : at_ = a
      · subst e
        rw [if_pos rfl] at hg
        cases hg
        rw [if_neg (by simp)]
        -- found.append(tuple(sorted(orbit)))
        refine ⟨_, rfl, .inl ⟨rfl, _, SqL.of (s3 _ _ hf2)⟩, ?_⟩
        show tCons _ tNil _ _ _
        refine Ea.go (ea_cons (P := TupOf (sortI orb)) (ev_tupOf (ev_sortI (ev_varP (P := LstOf orb) rfl (LstOf.mk ho3)))) ea_nil) fun vs H4 s4 hvs => ?_
        obtain ⟨v, _, rfl, hv, rfl⟩ := hvs
        have s24 := s3.trans s4
        have hf4 := s24 _ _ hf2
        refine ⟨fnd, ws, v, rfl, rfl, hf4, ?_, ?_⟩
        · rw [rf2.length]
          exact lt_line (by omega)
        have st : ∀ b x, TupOf b x H4 → TupOf b x (upd H4 fnd (.lst (ws ++ [v]))) := fun b x r => Firm.st hf4 r
        have rf5 : All2 TupOf (upd H4 fnd (.lst (ws ++ [v]))) (done ++ [sortI orb]) (ws ++ [v]) := (all2_upd (rf2.up s24) hf4 st).append (.one (st _ _ hv))
        have hl5 : (upd H4 fnd (.lst (ws ++ [v]))) l = some (.lst ((at_ :: r).map V.int)) := by
          rw [upd_ne hne]
          exact s24 _ _ hl2
        have ho5 : (upd H4 fnd (.lst (ws ++ [v]))) o = some (.lst (orb.map V.int)) := by
          rw [upd_ne (ne_of_none hf2 no).symm]
          exact s4 _ _ ho3
        have s5 : Same H (upd H4 fnd (.lst (ws ++ [v]))) := same_mut (s02.trans s24) nf0
        -- left = [part for part in left if part not in orbit]
        refine s_asg (ev_lcL (RB := IntI) (at_ :: r) (fun p => !(orb.contains p)) (fun p => p) (ev_varP (P := LstOf (at_ :: r)) rfl (LstOf.mk hl5)) (by omega) (fun _ => rfl)
          (fun b _ x H6 s6 hx => ?_) (fun b _ _ x H6 s6 hx => ?_)) fun v6 H6 s6 hv6 => ?_
        · cases hx
          exact et_test (ev_notInI (ev_var rfl) (ev_varP rfl (LstOf.mk (s6 _ _ ho5))))
        · cases hx
          exact ev_var rfl
        · rw [List.map_id'] at hv6
          obtain ⟨l6, rfl, hl6⟩ := LstOf.get hv6
          have hf6 := s6 _ _ (show (upd H4 fnd (.lst (ws ++ [v]))) fnd = _ from upd_same)
          refine ⟨l6, _, _, _, _, _, rfl, s5.trans s6, hl6, ?_, ⟨_, hf6, rf5.up s6⟩, hn, fun x hx => hb x (List.mem_filter.mp hx).1, Nat.le_trans (List.length_filter_le _ _) hz, ?_⟩
          · intro e
            subst e
            rw [hl6] at hf6
            have e1 := HO.lst.inj (Option.some.inj hf6)
            have hm : v ∈ ws ++ [v] := List.mem_append_right _ List.mem_cons_self
            rw [← e1] at hm
            obtain ⟨z, _, ez⟩ := List.mem_map.mp hm
            obtain ⟨t, et, _⟩ := hv
            rw [et] at ez
            cases ez
          · rw [List.length_append]
            show done.length + 1 + n ≤ 256
            omega
      · rw [if_neg e] at hg
        rw [if_pos (by rw [decide_eq_false (fun z => e (V.int.inj z))]; rfl)]
        refine ⟨fun σ H' => ∃ (at_ : Int) (acc : List Int), σ = [some (.int m), some (.int fc), some (.ref l), some (.ref fnd), some (.ref o), some (.int at_), y6] ∧ Same H2 H' ∧ H' o = some (.lst (acc.map V.int)) ∧ orbitG m fc a j at_ acc = some orb ∧ (0 ≤ at_ ∧ at_ < m) ∧ acc.length + j ≤ 257,
          fun σ' H' w' => ⟨j, Nat.lt_succ_self _, w'⟩, ?_⟩
        refine ⟨_, rfl, .inl ⟨rfl, _, SqL.of ho3⟩, _, rfl, o, _, .int at_, rfl, rfl, ho3, ?_, ?_⟩
        · rw [List.length_map]
          exact lt_line (by omega)
        refine ⟨_, rfl, _, rfl, at_, fc, rfl, rfl, mul_ok hat.1 (by omega), ?_⟩
        refine ⟨_, rfl, at_ * fc, m, rfl, rfl, by omega, ?_⟩
        refine ⟨_, acc ++ [at_], rfl, same_mut s3 no, ?_, hg, ⟨Int.emod_nonneg _ (by omega), Int.emod_lt_of_pos _ (by omega)⟩, ?_⟩
        · rw [upd_same, List.map_append]
          rfl
        · rw [List.length_append]
          show acc.length + 1 + j ≤ 257
          omega
end
end Fs

/-! unions_of, fixed_sets. -/
namespace Fs
open PySem PySem.Spec PyProof.Rows L2
theorem unions_app (k : Int) : ∀ (a b t : List (List Int)), unionsG k (a ++ b) t = unionsG k b (unionsG k a t)
  | [], _, _ => rfl
  | o :: a, b, t => unions_app k a b (joinU k o t)
theorem joinU_len (k : Int) (o : List Int) (t : List (List Int)) : (joinU k o t).length ≤ 2 * t.length := by
  unfold joinU
  rw [List.length_append, List.length_map]
  have := List.length_filter_le (fun s : List Int => decide ((s.length : Int) + (o.length : Int) ≤ k)) t
  omega
theorem unions_len (k : Int) : ∀ (a t : List (List Int)), (unionsG k a t).length ≤ 2 ^ a.length * t.length
  | [], t => by show t.length ≤ 2 ^ 0 * t.length; omega
  | o :: a, t => by
    have h1 := unions_len k a (joinU k o t)
    have h2 := Nat.mul_le_mul_left (2 ^ a.length) (joinU_len k o t)
    rw [List.length_cons, Nat.pow_succ, Nat.mul_assoc]
    exact Nat.le_trans h1 h2
theorem unions_few {k : Int} {a : List (List Int)} (h : a.length ≤ 20) (i : Nat) : (unionsG k (a.take i) [[]]).length ≤ 1048576 := by
  have h1 := unions_len k (a.take i) [[]]
  have h2 : (a.take i).length ≤ 20 := by rw [List.length_take]; omega
  have h3 := Nat.pow_le_pow_right (show 0 < 2 by decide) h2
  simp only [List.length_cons, List.length_nil] at h1
  omega
section
variable {σ : L2.St} {H : Hp} {ta tb tc td : TE}
theorem ev_unit : Ev (tTup tNil) σ H (TupOf []) := ev_tup ea_nil fun vs H1 h => by
  cases h
  exact ⟨by decide, fun p _ => ⟨p, rfl, upd_same⟩⟩
theorem ev_lst1 {α : Type} {R : α → VP} {a : α} [∀ a, Mono (R a)] (h : Ev ta σ H (R a)) : Ev (tLst (tCons ta tNil)) σ H (SeqOf R [a]) := ev_lst (ea_cons h ea_nil) fun vs H1 p => by
  obtain ⟨v, _, rfl, r, rfl⟩ := p
  exact ⟨by simp, fun p np => ⟨p, [v], rfl, upd_same, .one (Mono.up (same_new np) r)⟩⟩
theorem ev_counts {m : Int} {t : List Int} (hm : 0 < m ∧ m ≤ 1000) (ha : Ev ta σ H (Is (.int m))) (hb : Ev tb σ H (TupOf t)) : Ev (tCall spCounts [] E0 (tCons ta (tCons tb tNil))) σ H (LstOf (countsM m t)) :=
  ev_call (ea_cons ha (ea_cons hb ea_nil)) fun vs H1 _ p Q q => by
    obtain ⟨_, _, rfl, rfl, x, _, rfl, hx, rfl⟩ := p
    exact ⟨m, t, x, rfl, hm, hx, fun v H' s h => q v H' s h⟩
theorem ev_common {cs : List Int} (hz : cs.length ≤ 1000) (ha : Ev ta σ H (LstOf cs)) : Ev (tCall spCommon [] E0 (tCons ta tNil)) σ H (Is (optV (commonM cs))) :=
  ev_call (ea_cons ha ea_nil) fun vs H1 _ p Q q => by
    obtain ⟨x, _, rfl, hx, rfl⟩ := p
    exact ⟨cs, x, rfl, hz, hx, fun H' s => q _ H' s rfl⟩
end
theorem counts_size (m : Int) (t : List Int) : (countsM m t).length = m.toNat := by
  unfold countsM
  rw [counts_len, List.length_replicate]
section
variable {P : Program} {w : World} {K : PySem.W.Frag} {mg : Str → Option Value} {base : Heap} {k : Nat}
abbrev sUnions : Stmt := topS 17
abbrev nUnions : List Str := ["orbits", "size", "told", "orbit", "some"]
theorem scUnions : FnScope nUnions ["orbits", "size"] (defScope sUnions) := ⟨rfl, rfl, rfl, by decide +kernel, rfl, by decide +kernel, by decide +kernel⟩
def spUnions : Sp := fun vs H Q _ => ∃ os z x, vs = [x, .int z] ∧ os.length ≤ 20 ∧ z ≤ 1000 ∧ LotOf os x H ∧ ∀ v H', Same H H' → LotOf (unionsM os z) v H' → Q v H'
theorem fn_unions (T : There K mg "unions_of" sUnions ["orbits", "size"]) (m1 : mg "len" = none) (m3 : mg "tuple" = none) (m4 : mg "sorted" = none) : Fn P w K mg base (k + 1) "unions_of" ["orbits", "size"] spUnions := by
  refine T.fn fun f fd F => F.ok scUnions (fun vs H Q E h => ?_) (fun cdv A outer s H vs Q E hr h => ?_)
  · obtain ⟨os, z, x, rfl, _⟩ := h
    rfl
  · obtain ⟨os, z, x, rfl, hn, hz, ⟨a, xs, rfl, ha, ra⟩, q⟩ := h
    refine ⟨_, pss_cons (ps_set (i := 2) scUnions.nd rfl (.inl rfl) (pe_lst (pa_cons (pe_tup pa_nil) pa_nil)))
      (pss_cons (ps_for PassesOwn.never rfl (pi_list (pv 0)) (pg_name (i := 3) scUnions.nd rfl (.inr rfl))
        (pss_one (ps_set (i := 2) scUnions.nd rfl (.inl rfl) (pe_op op_cat (pv 2)
          (pe_lc (own := [("some", 4)]) (g := gName 4) rfl scUnions.nd (pi_list (pv 2)) (blkOk_by (N := nUnions) (sc := defScope sUnions) (by decide +kernel)) (fun _ _ _ _ _ => pg_name (i := 4) scUnions.nd rfl (Or.inl rfl))
            (fun _ _ _ _ _ => pts_one (pt_cmpR op_le (pe_op op_add (pe_callB (r := rLenK K) call_lenK (by rfl) m1 boot_len (pa_cons (pv 4) pa_nil)) (pe_callB (r := rLenK K) call_lenK (by rfl) m1 boot_len (pa_cons (pv 3) pa_nil))) (pv 1) (nomark _)))
            (fun _ _ _ _ _ => pe_op (r := rCatA K) op_catA (pv 4) (pv 3)))))))
      (pss_one (ps_ret (pe_lc (own := [("some", 4)]) (g := gName 4) rfl scUnions.nd (pi_list (pv 2)) (blkOk_by (N := nUnions) (sc := defScope sUnions) (by decide +kernel)) (fun _ _ _ _ _ => pg_name (i := 4) scUnions.nd rfl (Or.inl rfl))
            (fun _ _ _ _ _ => pts_one (pt_cmpR op_eq (pe_callB (r := rLenK K) call_lenK (by rfl) m1 boot_len (pa_cons (pv 4) pa_nil)) (pv 1) (nomark _)))
            (fun _ _ _ _ _ => pe_callTy (r := fun xs H Q => ∃ p ys, xs = [.ref p] ∧ ((SqL K H p ys ∧ ∀ l, H l = none → Q (.ref l) (upd H l (.tup ys))) ∨ (SqT K H p ys ∧ Q (.ref p) H))) call_tuple_of (by rfl) m3 boot_tuple (pa_cons (pe_callB (r := rSortedTI K) cr_sortedTI (by rfl) m4 boot_sorted (pa_cons (pv 4) pa_nil)) pa_nil)))))), ?_⟩
    refine q_asg (ev_lst1 (R := TupOf) ev_unit) fun v H1 s1 hv => ?_
    refine ⟨_, rfl, a, rfl, ⟨xs, SqL.of (s1 _ _ ha)⟩, for_list (xs := xs) (fun i σ H' => ∃ v2 y3 y4, σ = [some (.ref a), some (.int z), some v2, y3, y4] ∧ Same H H' ∧ LotOf (unionsG z (os.take i) [[]]) v2 H')
      ⟨v, none, none, rfl, s1, hv⟩ (fun i σ H' _ ⟨_, _, _, _, sm, _⟩ => SqL.of (sm _ _ ha)) (fun i x σ H' hx hW => ?_) (fun σ H' hW => ?_)⟩
    · obtain ⟨v2, y3, y4, rfl, sm, h2⟩ := hW
      obtain ⟨o, ho, rx⟩ := ra.get hx
      have rx' := Mono.up sm rx
      have few := unions_few (k := z) hn i
      have few2 : (joinU z o (unionsG z (os.take i) [[]])).length ≤ 2097152 := Nat.le_trans (joinU_len z o _) (by omega)
      refine s_asg (P := LotOf (unionsG z (os.take (i + 1)) [[]])) ?_ fun v3 H3 s3 h3 => ⟨v3, _, _, rfl, sm.trans s3, h3⟩
      rw [List.take_add_one, ho, unions_app]
      refine ev_cat (ev_varP rfl h2) (ev_lcL (RB := TupOf) (unionsG z (os.take i) [[]]) (fun s => decide ((s.length : Int) + (o.length : Int) ≤ z)) (fun s => s ++ o) (ev_varP rfl h2) (by omega) (fun _ => rfl)
        (fun t _ x H4 s4 ht => ?_) (fun t _ hf x H4 s4 ht => ?_)) ?_
      · exact et_test (ev_opI (ev_opI (ev_lenT (ns := t) (ev_varP rfl ht)) (ev_lenT (ns := o) (ev_varP rfl (Mono.up s4 rx')))) (ev_var rfl))
      · refine ev_catT (ev_varP rfl ht) (ev_varP rfl (Mono.up s4 rx')) ?_
        have hf' := of_decide_eq_true hf
        omega
      · have := few2
        unfold joinU at this
        rw [List.length_append] at this
        omega
    · obtain ⟨v2, y3, y4, rfl, sm, h2⟩ := hW
      rw [ra.length, List.take_length] at h2
      have few := unions_few (k := z) hn os.length
      rw [List.take_length] at few
      refine s_ret (D := { nx := fun _ H' => Q .non H', rt := Q }) (ev_lcL (RB := TupOf) (unionsG z os [[]]) (fun s => decide ((s.length : Int) = z)) sortI (ev_varP rfl h2) (by omega) (fun _ => rfl)
        (fun t _ x H4 s4 ht => ?_) (fun t _ hf x H4 s4 ht => ?_)) fun v H4 s4 hv => q v H4 (sm.trans s4) hv
      · refine (et_test (ev_eq (ev_lenT (ns := t) (ev_varP rfl ht)) (ev_var rfl) rfl)).is ?_
        rw [Bool.eq_iff_iff]
        simp
      · exact ev_tupOf (ev_sortTI (ev_varP rfl ht))

/-! ### fixed_sets -/
abbrev sFixed : Stmt := topS 18
abbrev nFixed : List Str := ["modulus", "size", "often", "factor", "orbits", "told"]
theorem scFixed : FnScope nFixed ["modulus", "size", "often", "factor"] (defScope sFixed) := ⟨rfl, rfl, rfl, by decide +kernel, rfl, by decide +kernel, by decide +kernel⟩
def spFixed : Sp := fun vs H Q _ => ∃ m z l f res, vs = [.int m, .int z, .int l, .int f] ∧ FixOk m z l f res ∧ ∀ v H', Same H H' → LotOf res v H' → Q v H'
theorem fn_fixed (T : There K mg "fixed_sets" sFixed ["modulus", "size", "often", "factor"]) (m1 : mg "len" = none) (m4 : mg "sorted" = none) (mM : ∃ t, mg "MOST_ORBITS" = some (.int 20 t))
    (GS : Fn P w K mg base k "need_sizes" ["modulus", "size", "often"] spNeedS) (GI : Fn P w K mg base k "is_in" ["value", "least", "most"] spIsIn) (GG : Fn P w K mg base k "common_divisor" ["one", "other"] spGcd)
    (GO : Fn P w K mg base k "orbits_of" ["modulus", "factor"] spOrbits) (GU : Fn P w K mg base k "unions_of" ["orbits", "size"] spUnions) (GC : Fn P w K mg base k "counts_of" ["modulus", "members"] spCounts) (GM : Fn P w K mg base k "common" ["counts"] spCommon) :
    Fn P w K mg base (k + 1) "fixed_sets" ["modulus", "size", "often", "factor"] spFixed := by
  obtain ⟨tk, mM⟩ := mM
  refine T.fn fun f fd F => F.ok scFixed (fun vs H Q E h => ?_) (fun cdv A outer s H vs Q E hr h => ?_)
  · obtain ⟨m, z, l, fc, res, rfl, _⟩ := h
    rfl
  · obtain ⟨m, z, l, fc, res, rfl, hF, q⟩ := h
    obtain ⟨os, ho, hn, h64, hok, hres⟩ := hF.os
    have hd : 1 ≤ z.toNat := by have := hF.hk; omega
    have ez : ((z.toNat : Nat) : Int) = z := Int.toNat_of_nonneg (by have := hF.hk; omega)
    refine ⟨_, pss_cons (ps_expr (pe_fn GS hr (by rfl) (pa_cons (pv 0) (pa_cons (pv 1) (pa_cons (pv 2) pa_nil)))))
      (pss_cons (ps_if (PW.pt (pw_or (pt_not (pt_val (pe_fn GI hr (by rfl) (pa_cons (pv 3) (pa_cons pe_int (pa_cons (pe_op op_sub (pv 0) pe_int) pa_nil))))))
          (pw_or1 (pt_cmpR op_ne (pe_fn GG hr (by rfl) (pa_cons (pv 3) (pa_cons (pv 0) pa_nil))) pe_int (nomark _))))) pss_never pss_nil)
      (pss_cons (ps_set (i := 4) scFixed.nd rfl (.inl rfl) (pe_fn GO hr (by rfl) (pa_cons (pv 0) (pa_cons (pv 3) pa_nil))))
      (pss_cons (ps_if (pt_cmpR op_gt (pe_callB (r := rLenK K) call_lenK (by rfl) m1 boot_len (pa_cons (pv 4) pa_nil)) (pe_glob (v := .int 20) rfl mM ⟨tk, rfl⟩) (nomark _)) pss_never pss_nil)
      (pss_one (ps_ret (pe_callB (cr_sortT (d := z.toNat) (B := 256) hd) (by rfl) m4 boot_sorted (pa_cons
        (pe_lc (own := [("told", 5)]) (g := gName 5) rfl scFixed.nd (pi_list (pe_fn GU hr (by rfl) (pa_cons (pv 4) (pa_cons (pv 1) pa_nil)))) (blkOk_by (N := nFixed) (sc := defScope sFixed) (by decide +kernel)) (fun _ _ _ _ _ => pg_name (i := 5) scFixed.nd rfl (Or.inl rfl))
          (fun _ _ _ _ _ => pts_one (pt_cmpR op_eq (pe_fn GM hr (by rfl) (pa_cons (pe_fn GC hr (by rfl) (pa_cons (pv 0) (pa_cons (pv 5) pa_nil))) pa_nil)) (pv 2) (nomark _)))
          (fun _ _ _ _ _ => pv 5)) pa_nil))))))), ?_⟩
    have hm := hF.hm
    have hk := hF.hk
    have hl := hF.hl
    have hf := hF.hf
    -- need_sizes(modulus, size, often)
    refine ⟨_, rfl, _, rfl, _, rfl, m, z, l, rfl, hm, ⟨by omega, hk.2⟩, hl, ?_⟩
    -- the factor
    refine ⟨_, rfl, _, rfl, m, 1, rfl, rfl, fc, 0, m - 1, rfl, hf.1, hf.2, true, rfl, ?_⟩
    refine ⟨_, rfl, _, rfl, 64, fc, m, 1, rfl, by omega, hF.hg, rfl, _, rfl, ?_⟩
    -- orbits
    refine q_asg (P := LotOf os) (ev_call (ea_cons (ev_var rfl) (ea_cons (ev_var rfl) ea_nil)) fun vs H1 _ p Q q => ?_) fun vo H1 s1 hvo => ?_
    · obtain ⟨_, _, rfl, rfl, _, _, rfl, rfl, rfl⟩ := p
      exact ⟨m, fc, os, rfl, hm, ho, fun v H' s h => q v H' s h⟩
    refine q_pass (et_test ((ev_opI (ev_lenL (R := TupOf) (ev_varP rfl hvo)) ev_c).is ?_)) fun H2 s2 => ?_
    · show V.bl (decide ((20 : Int) < (os.length : Int))) = V.bl false
      congr 1
      rw [decide_eq_false_iff_not]
      omega
    have hall : (rawM m z l os).all (okT ((z.toNat : Nat) : Int)) = true := by rw [ez]; exact hok
    refine s_ret (D := { nx := fun _ H' => Q .non H', rt := Q }) (P := LotOf res) ?_ fun v H4 s4 hv => q v H4 ((s1.trans s2).trans s4) hv
    rw [← hres]
    refine ev_sortT ?_ h64 hall
    have few : (unionsM os z).length ≤ 1048576 := by
      unfold unionsM
      rw [List.length_map]
      refine Nat.le_trans (List.length_filter_le _ _) ?_
      have := unions_few (k := z) hn os.length
      rw [List.take_length] at this
      exact this
    refine (ev_lcL (RA := TupOf) (RB := TupOf) (unionsM os z) (fun t => decide (commonM (countsM m t) = some l)) (fun t => t) (ev_call (ea_cons (ev_varP rfl (Mono.up s2 hvo)) (ea_cons (ev_var rfl) ea_nil)) fun vs H1 _ p Q q => ?_) (by omega) (fun _ => rfl)
        (fun t _ x H4 s4 ht => ?_) (fun t _ _ x H4 s4 ht => ?_)).imp fun v H4 _ h => ?_
    · obtain ⟨x, _, rfl, hx, _, _, rfl, rfl, rfl⟩ := p
      exact ⟨os, z, x, rfl, hn, by omega, hx, fun v H' s h => q v H' s h⟩
    · refine (et_test (ev_eq (ev_common (cs := countsM m t) (by rw [counts_size]; omega) (ev_counts ⟨by omega, by omega⟩ (ev_var rfl) (ev_varP rfl ht))) (ev_var rfl) (optV_scal _ _))).is (optV_eq _ _)
    · exact ev_varP rfl ht
    · rw [List.map_id'] at h
      exact h
end
end Fs

/-! _law_counts (printed by gen.py from counts_of's walk). -/
namespace Fs
open PySem PySem.Spec PyProof.Rows L2
section
variable {P : Program} {w : World} {K : PySem.W.Frag} {mg : Str → Option Value} {base : Heap} {k : Nat}
abbrev sLCounts : Stmt := topS 25
theorem scLCounts : FnScope ["_law_modulus", "_law_members", "_law_found", "_law_one", "_law_other"] ["_law_modulus", "_law_members"] (defScope sLCounts) := ⟨rfl, rfl, rfl, by decide +kernel, rfl, by decide +kernel, by decide +kernel⟩
theorem fn_lcounts (T : There K mg "_law_counts" sLCounts ["_law_modulus", "_law_members"]) : Fn P w K mg base (k + 1) "_law_counts" ["_law_modulus", "_law_members"] spCounts := by
  refine T.fn fun f fd F => F.ok scLCounts (fun vs H Q E h => ?_) (fun cdv A outer s H vs Q E hr h => ?_)
  · obtain ⟨m, t, x, rfl, _⟩ := h
    rfl
  · obtain ⟨m, t, x, rfl, hm, ⟨a, rfl, ha⟩, q⟩ := h
    refine ⟨_, pss_cons (ps_set (i := 2) scLCounts.nd rfl (.inl rfl) (pe_op op_rep (pe_lst (pa_cons pe_int pa_nil)) (pv 0)))
      (pss_cons (ps_for PassesOwn.never rfl (pi_tup (pv 1)) (pg_name (i := 3) scLCounts.nd rfl (.inl rfl))
        (pss_one (ps_for PassesOwn.never rfl (pi_tup (pv 1)) (pg_name (i := 4) scLCounts.nd rfl (.inl rfl))
          (pss_one (ps_augS (pv 2) (pe_op op_mod (pe_op op_sub (pv 3) (pv 4)) (pv 0)) pget_nat pe_int ip_add set_list)))))
      (pss_one (ps_ret (pv 2)))), ?_⟩
    refine ⟨le_line (by decide), fun p0 n0 => ⟨_, rfl, p0, m, _, rfl, rfl, upd_same, by omega, by omega, ?_, fun p np => ?_⟩⟩
    · show 1 * m.toNat ≤ sizeLine
      exact le_line (by omega)
    have np' : H p = none := Same.free (same_new n0) np
    have s0 : Same H (upd (upd H p0 (.lst [V.int 0])) p (.lst (List.replicate m.toNat [V.int 0]).flatten)) := (same_new n0).trans (same_new np)
    refine ⟨_, rfl, a, rfl, ⟨_, SqT.of (s0 _ _ ha)⟩, for_tup (xs := t.map V.int) (fun i σ H' => ∃ y3 y4, σ = [some (.int m), some (.ref a), some (.ref p), y3, y4] ∧ Same H H' ∧ H' p = some (.lst (((t.take i).foldl (fun acc a => t.foldl (bump m a) acc) (List.replicate m.toNat 0)).map V.int)))
      ⟨none, none, rfl, s0, ?_⟩ (fun i σ H' _ ⟨_, _, _, sm, _⟩ => SqT.of (sm _ _ ha)) (fun i x σ H' hx hW => ?_) (fun σ H' hW => ?_)⟩
    · rw [upd_same, rep_ints]
      rfl
    · obtain ⟨y3, y4, rfl, sm, hp⟩ := hW
      obtain ⟨c, hc, rfl⟩ := int_get hx
      refine ⟨_, rfl, a, rfl, ⟨_, SqT.of (sm _ _ ha)⟩, for_tup (xs := t.map V.int) (fun j σ H' => ∃ y4, σ = [some (.int m), some (.ref a), some (.ref p), some (.int c), y4] ∧ Same H H' ∧ H' p = some (.lst (((t.take j).foldl (bump m c) ((t.take i).foldl (fun acc a => t.foldl (bump m a) acc) (List.replicate m.toNat 0))).map V.int)))
        ⟨y4, rfl, sm, hp⟩ (fun i σ H' _ ⟨_, _, sm, _⟩ => SqT.of (sm _ _ ha)) (fun j x σ H' hx hW => ?_) (fun σ H' hW => ?_)⟩
      · obtain ⟨y4, rfl, sm, hp⟩ := hW
        obtain ⟨d, hd, rfl⟩ := int_get hx
        generalize hcs : (t.take j).foldl (bump m c) ((t.take i).foldl (fun acc a => t.foldl (bump m a) acc) (List.replicate m.toNat 0)) = cs at hp
        have hl : cs.length = m.toNat := by
          rw [← hcs, bumps_len, counts_len, List.length_replicate]
        have h1 : 0 ≤ (c - d) % m := Int.emod_nonneg _ (by omega)
        have h2 : (c - d) % m < m := Int.emod_lt_of_pos _ hm.1
        obtain ⟨i0, ei⟩ : ∃ i0 : Nat, (c - d) % m = (i0 : Int) := ⟨_, (Int.toNat_of_nonneg h1).symm⟩
        have hi0 : i0 < cs.length := by omega
        refine ⟨_, rfl, _, rfl, _, rfl, c, d, rfl, rfl, _, rfl, _, m, rfl, rfl, hm.1, ?_⟩
        have g : cs[i0]? = some cs[i0] := List.getElem?_eq_getElem hi0
        refine ⟨p, _, i0, .int cs[i0], rfl, congrArg V.int ei, hp, by rw [List.getElem?_map, g]; rfl, cs[i0], 1, rfl, rfl, p, _, _, i0, rfl, rfl, hp, ?_, ?_⟩
        · rw [ei, List.length_map]
          unfold ixN
          rw [if_pos (by omega), if_pos (by omega)]
          rfl
        · refine ⟨_, rfl, same_mut sm np', ?_⟩
          rw [upd_same, foldl_take hd, hcs]
          unfold bump
          rw [ei, Int.toNat_natCast, List.getD_eq_getElem?_getD, g, List.map_set]
          rfl
      · obtain ⟨y4, rfl, sm, hp⟩ := hW
        refine ⟨_, _, rfl, sm, ?_⟩
        rw [List.length_map, List.take_length] at hp
        rw [hp, foldl_take hc]
    · obtain ⟨y3, y4, rfl, sm, hp⟩ := hW
      rw [List.length_map, List.take_length] at hp
      exact ⟨_, rfl, q _ _ sm (LstOf.mk hp)⟩
end
end Fs

/-! The law's helpers: once, prime, common, moved, sets. -/
namespace Fs
open PySem PySem.Spec PyProof.Rows L2
theorem once_app : ∀ (a b f : List Int), onceG (a ++ b) f = onceG b (onceG a f)
  | [], _, _ => rfl
  | v :: a, b, f => once_app a b _
theorem once_len : ∀ (a f : List Int), (onceG a f).length ≤ a.length + f.length
  | [], f => by show f.length ≤ 0 + f.length; omega
  | v :: a, f => by
    have h := once_len a (if f.contains v = true then f else f ++ [v])
    show (onceG a (if f.contains v = true then f else f ++ [v])).length ≤ _
    split at h
    · rename_i e
      rw [if_pos e]
      rw [List.length_cons]
      omega
    · rename_i e
      rw [if_neg e]
      rw [List.length_append] at h
      rw [List.length_cons]
      simp only [List.length_cons, List.length_nil] at h
      omega
theorem nil_dec {α : Type} [DecidableEq α] (l : List α) : decide (l = []) = l.isEmpty := by cases l <;> simp
theorem sets_app (k : Int) : ∀ (a b : List Int) (f : List (List Int)), setsG k (a ++ b) f = setsG k b (setsG k a f)
  | [], _, _ => rfl
  | v :: a, b, f => sets_app k a b _
theorem sets_len (k : Int) : ∀ (a : List Int) (t : List (List Int)), (setsG k a t).length ≤ 2 ^ a.length * t.length
  | [], t => by show t.length ≤ 2 ^ 0 * t.length; omega
  | o :: a, t => by
    have h1 := sets_len k a (t ++ ((t.filter fun t => decide ((t.length : Int) < k)).map fun t => t ++ [o]))
    have h0 : (t ++ ((t.filter fun t => decide ((t.length : Int) < k)).map fun t => t ++ [o])).length ≤ 2 * t.length := by
      rw [List.length_append, List.length_map]
      have := List.length_filter_le (fun t : List Int => decide ((t.length : Int) < k)) t
      omega
    have h2 := Nat.mul_le_mul_left (2 ^ a.length) h0
    rw [List.length_cons, Nat.pow_succ, Nat.mul_assoc]
    exact Nat.le_trans h1 h2
theorem sets_few {k n : Int} (h : n ≤ 20) (i : Nat) : (setsG k ((rng 0 n).take i) [[]]).length ≤ 1048576 := by
  have h1 := sets_len k ((rng 0 n).take i) [[]]
  have h2 : ((rng 0 n).take i).length ≤ 20 := by rw [List.length_take, rng_len]; omega
  have h3 := Nat.pow_le_pow_right (show 0 < 2 by decide) h2
  simp only [List.length_cons, List.length_nil] at h1
  omega
section
variable {P : Program} {w : World} {K : PySem.W.Frag} {mg : Str → Option Value} {base : Heap} {k : Nat}
/-! ### _law_once -/
abbrev sOnce : Stmt := topS 23
abbrev nOnce : List Str := ["_law_values", "_law_found", "_law_value"]
theorem scOnce : FnScope nOnce ["_law_values"] (defScope sOnce) := ⟨rfl, rfl, rfl, by decide +kernel, rfl, by decide +kernel, by decide +kernel⟩
def spOnce : Sp := fun vs H Q _ => ∃ ns x, vs = [x] ∧ ns.length ≤ 1000 ∧ LstOf ns x H ∧ ∀ v H', Same H H' → LstOf (onceM ns) v H' → Q v H'
theorem fn_once (T : There K mg "_law_once" sOnce ["_law_values"]) (m4 : mg "sorted" = none) : Fn P w K mg base (k + 1) "_law_once" ["_law_values"] spOnce := by
  refine T.fn fun f fd F => F.ok scOnce (fun vs H Q E h => ?_) (fun cdv A outer s H vs Q E hr h => ?_)
  · obtain ⟨ns, x, rfl, _⟩ := h
    rfl
  · obtain ⟨ns, x, rfl, hz, hx, q⟩ := h
    obtain ⟨a, rfl, ha⟩ := hx.get
    refine ⟨_, pss_cons (ps_set (i := 1) scOnce.nd rfl (.inl rfl) (pe_lst pa_nil))
      (pss_cons (ps_for PassesOwn.never rfl (pi_list (pv 0)) (pg_name (i := 2) scOnce.nd rfl (.inl rfl))
        (pss_one (ps_if (pt_cmpR op_notIn_seq (pv 2) (pv 1) rfl) (pss_one (ps_expr (pe_bm PySem.F.plainAttrs_list PySem.F.slot_list_append PySem.F.type_list_append mt_append (pv 1) (pa_cons (pv 2) pa_nil)))) pss_nil)))
      (pss_one (ps_ret (pe_callB cr_sortedI (by rfl) m4 boot_sorted (pa_cons (pv 1) pa_nil))))), ?_⟩
    refine q_asg (ev_newL [] ea_nil (by decide)) fun v H1 s1 hv => ?_
    obtain ⟨p, rfl, np, hp⟩ := hv
    refine ⟨_, rfl, a, rfl, ⟨_, SqL.of (s1 _ _ ha)⟩, for_list (xs := ns.map V.int) (fun i σ H' => ∃ y2, σ = [some (.ref a), some (.ref p), y2] ∧ Same H H' ∧ H' p = some (.lst ((onceG (ns.take i) []).map V.int)))
      ⟨none, rfl, s1, hp⟩ (fun i σ H' _ ⟨_, _, sm, _⟩ => SqL.of (sm _ _ ha)) (fun i x σ H' hx hW => ?_) (fun σ H' hW => ?_)⟩
    · obtain ⟨y2, rfl, sm, hp⟩ := hW
      obtain ⟨c, hc, rfl⟩ := int_get hx
      have nx : onceG (ns.take (i + 1)) [] = if (onceG (ns.take i) []).contains c = true then onceG (ns.take i) [] else onceG (ns.take i) [] ++ [c] := by
        rw [List.take_add_one, hc, once_app]
        rfl
      have hl : (onceG (ns.take i) []).length ≤ 1000 := by
        have h1 := once_len (ns.take i) []
        rw [List.length_take] at h1
        simp only [List.length_nil] at h1
        omega
      refine s_if (et_test (ev_notInI (ev_var rfl) (ev_varP (P := LstOf (onceG (ns.take i) [])) rfl (LstOf.mk hp)))) (fun e H2 s2 => ?_) (fun e H2 s2 => ?_)
      · have e' : ¬ (onceG (ns.take i) []).contains c = true := by simpa using e
        rw [if_neg e'] at nx
        refine ⟨_, rfl, .inl ⟨rfl, _, SqL.of (s2 _ _ hp)⟩, _, rfl, p, _, .int c, rfl, rfl, s2 _ _ hp, ?_, _, rfl, same_mut (sm.trans s2) np, ?_⟩
        · rw [List.length_map]
          exact lt_line (by omega)
        · rw [upd_same, nx, List.map_append]
          rfl
      · have e' : (onceG (ns.take i) []).contains c = true := by simpa using e
        rw [if_pos e'] at nx
        refine ⟨_, rfl, sm.trans s2, ?_⟩
        rw [nx]
        exact s2 _ _ hp
    · obtain ⟨y2, rfl, sm, hp⟩ := hW
      rw [List.length_map, List.take_length] at hp
      exact s_ret (D := { nx := fun _ H' => Q .non H', rt := Q }) (ev_sortI (ev_varP (P := LstOf (onceG ns [])) rfl (LstOf.mk hp))) fun v H4 s4 hv => q v H4 (sm.trans s4) hv
theorem ev_once {σ : L2.St} {H : Hp} {ta : TE} {ns : List Int} (hz : ns.length ≤ 1000) (ha : Ev ta σ H (LstOf ns)) : Ev (tCall spOnce [] E0 (tCons ta tNil)) σ H (LstOf (onceM ns)) :=
  ev_call (ea_cons ha ea_nil) fun vs H1 _ p Q q => by
    obtain ⟨x, _, rfl, hx, rfl⟩ := p
    exact ⟨ns, x, rfl, hz, hx, fun v H' s h => q v H' s h⟩

/-! ### _law_prime -/
abbrev sPrime : Stmt := topS 24
abbrev nPrime : List Str := ["_law_number", "_law_part"]
theorem scPrime : FnScope nPrime ["_law_number"] (defScope sPrime) := ⟨rfl, rfl, rfl, by decide +kernel, rfl, by decide +kernel, by decide +kernel⟩
def spPrime : Sp := fun vs H Q _ => ∃ n, vs = [.int n] ∧ (-1000 ≤ n ∧ n ≤ 1000) ∧ ∀ H', Same H H' → Q (.bl (primeM n)) H'
theorem fn_prime (T : There K mg "_law_prime" sPrime ["_law_number"]) (m2 : mg "range" = none) : Fn P w K mg base (k + 1) "_law_prime" ["_law_number"] spPrime := by
  refine T.fn fun f fd F => F.ok scPrime (fun vs H Q E h => ?_) (fun cdv A outer s H vs Q E hr h => ?_)
  · obtain ⟨n, rfl, _⟩ := h
    rfl
  · obtain ⟨n, rfl, hn, q⟩ := h
    refine ⟨_, pss_one (ps_ret (pe_and (pe_cmpR op_gt (pv 0) pe_int (nomark _)) (pe_one (pe_cmpR (op_eqD hr.units)
      (pe_lc (own := [("_law_part", 1)]) (g := gName 1) rfl scPrime.nd (pi_range2 (by rfl) m2 (pa_cons pe_int (pa_cons (pv 0) pa_nil))) (blkOk_by (N := nPrime) (sc := defScope sPrime) (by decide +kernel)) (fun _ _ _ _ _ => pg_name (i := 1) scPrime.nd rfl (Or.inl rfl))
        (fun _ _ _ _ _ => pts_one (pt_cmpR op_eq (pe_op op_mod (pv 0) (pv 1)) pe_int (nomark _))) (fun _ _ _ _ _ => pv 1)) (pe_lst pa_nil) (nomark _))))), ?_⟩
    refine s_ret (D := { nx := fun _ H' => Q .non H', rt := Q }) (P := Is (.bl (primeM n))) ?_ fun v H1 s1 hv => by
      cases hv
      exact q H1 s1
    refine (ev_andB (b := ((rng 2 n).filter fun p => decide (n % p = 0)).isEmpty) (ev_opI (ev_var rfl) ev_c) fun _ => (ev_eqII (a := (rng 2 n).filter fun p => decide (n % p = 0)) (b := []) ?_ ev_nil).is (by rw [nil_dec])).is rfl
    refine (ev_lcR2 (RB := IntI) 2 n (fun p => decide (n % p = 0)) (fun p => p) (ea_cons ev_c (ea_cons (ev_var rfl) ea_nil)) ⟨by omega, by omega, by omega, by omega, by omega⟩ (fun _ => rfl) (fun a ha H4 s4 => ?_) (fun a _ _ H4 s4 => ev_var rfl)).imp fun v H4 _ h => ?_
    · have := rng_mem ha
      refine (et_test (ev_eq (ev_opC (by omega) (ev_var rfl) (ev_var rfl)) ev_c rfl)).is ?_
      rw [Bool.eq_iff_iff]
      simp
    · rw [List.map_id'] at h
      exact h

/-! ### _law_common -/
abbrev sLCommon : Stmt := topS 26
abbrev nLCommon : List Str := ["_law_counts_here", "_law_told"]
theorem scLCommon : FnScope nLCommon ["_law_counts_here"] (defScope sLCommon) := ⟨rfl, rfl, rfl, by decide +kernel, rfl, by decide +kernel, by decide +kernel⟩
def spLCommon : Sp := fun vs H Q _ => ∃ cs x, vs = [x] ∧ cs.length ≤ 1000 ∧ LstOf cs x H ∧ ∀ H', Same H H' → Q (optV (lcommonM cs)) H'
theorem fn_lcommon (T : There K mg "_law_common" sLCommon ["_law_counts_here"]) (m1 : mg "len" = none) (GO : Fn P w K mg base k "_law_once" ["_law_values"] spOnce) : Fn P w K mg base (k + 1) "_law_common" ["_law_counts_here"] spLCommon := by
  refine T.fn fun f fd F => F.ok scLCommon (fun vs H Q E h => ?_) (fun cdv A outer s H vs Q E hr h => ?_)
  · obtain ⟨cs, x, rfl, _⟩ := h
    rfl
  · obtain ⟨cs, x, rfl, hz, hx, q⟩ := h
    refine ⟨_, pss_cons (ps_set (i := 1) scLCommon.nd rfl (.inl rfl) (pe_fn GO hr (by rfl) (pa_cons (pe_slice sl_list (pv 0) (po_some pe_int) po_none) pa_nil)))
      (pss_one (ps_ret (pe_ifExp (pt_cmpR op_eq (pe_callB (r := rLenK K) call_lenK (by rfl) m1 boot_len (pa_cons (pv 1) pa_nil)) pe_int (nomark _)) (pe_ix ix_list (pv 1) pe_int (fun _ _ => rfl)) pe_non))), ?_⟩
    refine q_asg (ev_once (ns := cs.drop 1) (by rw [List.length_drop]; omega) (ev_sliceL (ev_varP (P := LstOf cs) rfl hx) (fun H1 Q _ q => ⟨1, rfl, q H1 (Same.refl _)⟩) (fun H1 Q _ q => q H1 (Same.refl _)) (cs.drop 1) (fun vs H1 h => cut1 _ _ _ _ h))) fun v H1 s1 hv => ?_
    refine s_ret (D := { nx := fun _ H' => Q .non H', rt := Q }) (P := Is (optV (lcommonM cs))) ?_ fun v H2 s2 hv2 => by
      cases hv2
      exact q _ (s1.trans s2)
    have ht := et_test (b := decide ((onceM (cs.drop 1)).length = 1)) ((ev_eq (ev_lenL (K := K) (R := IntI) (ev_varP (i := 1) (σ := [some x, some v]) rfl hv)) (ev_c (v := .int 1)) rfl).is (by congr 1; rw [Bool.eq_iff_iff]; simp; omega))
    unfold lcommonM
    generalize onceM (cs.drop 1) = ds at hv ht
    refine ev_if ht (fun e => ?_) (fun e => ?_)
    · have e' := of_decide_eq_true e
      match ds, e' with
      | [d], _ => exact ev_ixL (R := IntI) (j := 0) (ev_varP rfl hv) rfl ev_c
    · have e' := of_decide_eq_false e
      match ds, e' with
      | [], _ => exact ev_c
      | [d], h => exact absurd rfl h
      | _ :: _ :: _, _ => exact ev_c

/-! ### _law_moved -/
abbrev sMoved : Stmt := topS 27
abbrev nMoved : List Str := ["_law_modulus", "_law_members", "_law_factor", "_law_step", "_law_part"]
theorem scMoved : FnScope nMoved ["_law_modulus", "_law_members", "_law_factor", "_law_step"] (defScope sMoved) := ⟨rfl, rfl, rfl, by decide +kernel, rfl, by decide +kernel, by decide +kernel⟩
def spMoved : Sp := fun vs H Q _ => ∃ m t fc st x, vs = [.int m, x, .int fc, .int st] ∧ 0 < m ∧ (0 ≤ fc ∧ fc ≤ 1000) ∧ t.length ≤ 1000 ∧ TupOf t x H ∧ ∀ v H', Same H H' → TupOf (movedM m t fc st) v H' → Q v H'
theorem fn_moved (T : There K mg "_law_moved" sMoved ["_law_modulus", "_law_members", "_law_factor", "_law_step"]) (m3 : mg "tuple" = none) (m4 : mg "sorted" = none) : Fn P w K mg base (k + 1) "_law_moved" ["_law_modulus", "_law_members", "_law_factor", "_law_step"] spMoved := by
  refine T.fn fun f fd F => F.ok scMoved (fun vs H Q E h => ?_) (fun cdv A outer s H vs Q E hr h => ?_)
  · obtain ⟨m, t, fc, st, x, rfl, _⟩ := h
    rfl
  · obtain ⟨m, t, fc, st, x, rfl, hm, hf, hz, hx, q⟩ := h
    refine ⟨_, pss_one (ps_ret (pe_callTy call_tuple_of (by rfl) m3 boot_tuple (pa_cons (pe_callB cr_sortedI (by rfl) m4 boot_sorted (pa_cons
      (pe_lc (own := [("_law_part", 4)]) (g := gName 4) (tt := tYes) rfl scMoved.nd (pi_tup (pv 1)) (blkOk_by (N := nMoved) (sc := defScope sMoved) (by decide +kernel)) (fun _ _ _ _ _ => pg_name (i := 4) scMoved.nd rfl (Or.inl rfl))
        (fun _ _ _ _ _ => pts_nil) (fun _ _ _ _ _ => pe_op op_mod (pe_op op_add (pe_op op_mul (pv 4) (pv 2)) (pv 3)) (pv 0))) pa_nil)) pa_nil))), ?_⟩
    refine s_ret (D := { nx := fun _ H' => Q .non H', rt := Q }) (P := TupOf (movedM m t fc st)) (ev_tupOf (ev_sortI ?_)) fun v H1 s1 hv => q v H1 s1 hv
    refine (ev_lcT (RB := IntI) t (fun _ => true) (fun p => (p * fc + st) % m) (ev_varP rfl hx) (by omega) (fun _ => rfl) (fun _ _ _ _ => et_yes) (fun a _ _ H4 s4 => ?_)).imp fun v H4 _ h => ?_
    · exact ev_opC hm (ev_opI (ev_opC (.inr ⟨by omega, by omega⟩) (ev_var rfl) (ev_var rfl)) (ev_var rfl)) (ev_var rfl)
    · rw [List.filter_eq_self.mpr (fun _ _ => rfl)] at h
      exact h
theorem ev_moved {σ : L2.St} {H : Hp} {ta tb tc td : TE} {m fc st : Int} {t : List Int} (hm : 0 < m) (hf : 0 ≤ fc ∧ fc ≤ 1000) (hz : t.length ≤ 1000) (ha : Ev ta σ H (Is (.int m))) (hb : Ev tb σ H (TupOf t)) (hc : Ev tc σ H (Is (.int fc))) (hd : Ev td σ H (Is (.int st))) :
    Ev (tCall spMoved [] E0 (tCons ta (tCons tb (tCons tc (tCons td tNil))))) σ H (TupOf (movedM m t fc st)) :=
  ev_call (ea_cons ha (ea_cons hb (ea_cons hc (ea_cons hd ea_nil)))) fun vs H1 _ p Q q => by
    obtain ⟨_, _, rfl, rfl, x, _, rfl, hx, _, _, rfl, rfl, _, _, rfl, rfl, rfl⟩ := p
    exact ⟨m, t, fc, st, x, rfl, hm, hf, hz, hx, fun v H' s h => q v H' s h⟩

/-! ### _law_sets -/
abbrev sSets : Stmt := topS 28
abbrev nSets : List Str := ["_law_many", "_law_size", "_law_found", "_law_at", "_law_told"]
theorem scSets : FnScope nSets ["_law_many", "_law_size"] (defScope sSets) := ⟨rfl, rfl, rfl, by decide +kernel, rfl, by decide +kernel, by decide +kernel⟩
def spSets : Sp := fun vs H Q _ => ∃ n z, vs = [.int n, .int z] ∧ (0 ≤ n ∧ n ≤ 20) ∧ z ≤ 1000 ∧ ∀ v H', Same H H' → LotOf (setsM n z) v H' → Q v H'
theorem fn_sets (T : There K mg "_law_sets" sSets ["_law_many", "_law_size"]) (m1 : mg "len" = none) (m2 : mg "range" = none) : Fn P w K mg base (k + 1) "_law_sets" ["_law_many", "_law_size"] spSets := by
  refine T.fn fun f fd F => F.ok scSets (fun vs H Q E h => ?_) (fun cdv A outer s H vs Q E hr h => ?_)
  · obtain ⟨n, z, rfl, _⟩ := h
    rfl
  · obtain ⟨n, z, rfl, hn, hz, q⟩ := h
    refine ⟨_, pss_cons (ps_set (i := 2) scSets.nd rfl (.inl rfl) (pe_lst (pa_cons (pe_tup pa_nil) pa_nil)))
      (pss_cons (ps_for PassesOwn.never rfl (pi_range1 (by rfl) m2 (pa_cons (pv 0) pa_nil)) (pg_name (i := 3) scSets.nd rfl (.inr rfl))
        (pss_one (ps_set (i := 2) scSets.nd rfl (.inl rfl) (pe_op op_cat (pv 2)
          (pe_lc (own := [("_law_told", 4)]) (g := gName 4) rfl scSets.nd (pi_list (pv 2)) (blkOk_by (N := nSets) (sc := defScope sSets) (by decide +kernel)) (fun _ _ _ _ _ => pg_name (i := 4) scSets.nd rfl (Or.inl rfl))
            (fun _ _ _ _ _ => pts_one (pt_cmpR op_lt (pe_callB (r := rLenK K) call_lenK (by rfl) m1 boot_len (pa_cons (pv 4) pa_nil)) (pv 1) (nomark _)))
            (fun _ _ _ _ _ => pe_op (r := rCatA K) op_catA (pv 4) (pe_tup (pa_cons (pv 3) pa_nil))))))))
      (pss_one (ps_ret (pe_lc (own := [("_law_told", 4)]) (g := gName 4) rfl scSets.nd (pi_list (pv 2)) (blkOk_by (N := nSets) (sc := defScope sSets) (by decide +kernel)) (fun _ _ _ _ _ => pg_name (i := 4) scSets.nd rfl (Or.inl rfl))
            (fun _ _ _ _ _ => pts_one (pt_cmpR op_eq (pe_callB (r := rLenK K) call_lenK (by rfl) m1 boot_len (pa_cons (pv 4) pa_nil)) (pv 1) (nomark _)))
            (fun _ _ _ _ _ => pv 4))))), ?_⟩
    refine q_asg (ev_lst1 (R := TupOf) ev_unit) fun v H1 s1 hv => ?_
    refine ⟨_, rfl, n, rfl, by omega, by omega, for_range (lo := 0) (n := n.toNat) (fun i σ H' => ∃ v2 y3 y4, σ = [some (.int n), some (.int z), some v2, y3, y4] ∧ Same H H' ∧ LotOf (setsG z ((rng 0 n).take i) [[]]) v2 H')
      ⟨v, none, none, rfl, s1, hv⟩ (fun i σ H' hi hW => ?_) (fun σ H' hW => ?_)⟩
    · obtain ⟨v2, y3, y4, rfl, sm, h2⟩ := hW
      have hg := rng_get (lo := 0) (hi := n) (i := i) (by omega)
      have few := sets_few (k := z) hn.2 i
      have few2 := sets_few (k := z) hn.2 (i + 1)
      have nx : setsG z ((rng 0 n).take (i + 1)) [[]] = setsG z ((rng 0 n).take i) [[]] ++ (((setsG z ((rng 0 n).take i) [[]]).filter fun t => decide ((t.length : Int) < z)).map fun t => t ++ [0 + (i : Int)]) := by
        rw [List.take_add_one, hg, sets_app]
        rfl
      refine s_asg (P := LotOf (setsG z ((rng 0 n).take (i + 1)) [[]])) ?_ fun v3 H3 s3 h3 => ⟨v3, _, _, rfl, sm.trans s3, h3⟩
      rw [nx] at few2 ⊢
      refine ev_cat (ev_varP rfl h2) (ev_lcL (RB := TupOf) _ _ _ (ev_varP rfl h2) (by omega) (fun _ => rfl)
        (fun t _ x H4 s4 ht => ?_) (fun t _ hf x H4 s4 ht => ?_)) ?_
      · exact et_test (ev_opI (ev_lenT (ns := t) (ev_varP rfl ht)) (ev_var rfl))
      · refine ev_catT (bs := [0 + (i : Int)]) (ev_varP rfl ht) (ev_tup (ea_cons (ev_var rfl) ea_nil) fun vs H5 p => ?_) ?_
        · obtain ⟨_, _, rfl, rfl, rfl⟩ := p
          exact ⟨by simp, fun p _ => ⟨p, rfl, upd_same⟩⟩
        · have hf' := of_decide_eq_true hf
          simp only [List.length_cons, List.length_nil]
          omega
      · rw [List.length_append] at few2
        omega
    · obtain ⟨v2, y3, y4, rfl, sm, h2⟩ := hW
      have el : (rng 0 n).length = n.toNat := by rw [rng_len, Int.sub_zero]
      rw [← el, List.take_length] at h2
      have few := sets_few (k := z) hn.2 n.toNat
      rw [← el, List.take_length] at few
      refine s_ret (D := { nx := fun _ H' => Q .non H', rt := Q }) ((ev_lcL (RA := TupOf) (RB := TupOf) (setsG z (rng 0 n) [[]]) (fun t => decide ((t.length : Int) = z)) (fun t => t) (ev_varP rfl h2) (by omega) (fun _ => rfl)
        (fun t _ x H4 s4 ht => ?_) (fun t _ hf x H4 s4 ht => ev_varP rfl ht)).imp fun v H4 _ h => ?_) fun v H4 s4 hv => q v H4 (sm.trans s4) hv
      · refine (et_test (ev_eq (ev_lenT (ns := t) (ev_varP rfl ht)) (ev_var rfl) rfl)).is ?_
        rw [Bool.eq_iff_iff]
        simp
      · rw [List.map_id'] at h
        exact h
end
end Fs

/-! The law's draws; its comparison. -/
namespace Fs
open PySem PySem.Spec PyProof.Rows L2
theorem upd_id {H : Hp} {a : Addr} {o : HO} (h : H a = some o) : upd H a o = H := by
  funext b
  unfold upd
  split
  · rename_i e
    rw [e, h]
  · rfl
section
variable {P : Program} {w : World} {K : PySem.W.Frag} {mg : Str → Option Value} {base : Heap} {k : Nat}
/-! ### _law_taken -/
abbrev sTaken : Stmt := topS 20
abbrev nTaken : List Str := ["_law_row", "_law_many", "_law_found", "_law_cell"]
theorem scTaken : FnScope nTaken ["_law_row", "_law_many"] (defScope sTaken) := ⟨rfl, rfl, rfl, by decide +kernel, rfl, by decide +kernel, by decide +kernel⟩
abbrev rowV (s : Addr) (i c d : Int) : List V := [.ref s, .int i, .int c, .int d]
def spTaken (K : PySem.W.Frag) : Sp := fun vs H Q _ => ∃ (r s : Addr) (ns : List Int) (i c d n : Int), vs = [.ref r, .int n] ∧ (1 ≤ n ∧ n ≤ 1000) ∧ H r = some (.lst (rowV s i c d)) ∧ 0 ≤ i ∧ (∀ R, SqL K (upd H r (.lst R)) s (ns.map V.int)) ∧
  ∀ (j : Nat) i' c' d', (j : Int) < n → 0 ≤ i' → Q (.int j) (upd H r (.lst (rowV s i' c' d')))
theorem emod_nat {a n : Int} (h : 0 < n) : ∃ j : Nat, a % n = (j : Int) ∧ (j : Int) < n := by
  have h1 : 0 ≤ a % n := Int.emod_nonneg _ (by omega)
  have h2 : a % n < n := Int.emod_lt_of_pos _ h
  exact ⟨(a % n).toNat, (Int.toNat_of_nonneg h1).symm, by omega⟩
theorem fn_taken (T : There K mg "_law_taken" sTaken ["_law_row", "_law_many"]) (m1 : mg "len" = none) (m2 : mg "int" = none) : Fn P w K mg base (k + 1) "_law_taken" ["_law_row", "_law_many"] (spTaken K) := by
  refine T.fn fun f fd F => F.ok scTaken (fun vs H Q E h => ?_) (fun cdv A outer s H vs Q E hr h => ?_)
  · obtain ⟨r, s, ns, i, c, d, n, rfl, _⟩ := h
    rfl
  · obtain ⟨r, sc, ns, i, c, d, n, rfl, hn, hH, hi, hs, q⟩ := h
    refine ⟨_, pss_cons (ps_if (pt_cmpR op_gt (pe_ix ix_list (pv 0) pe_int (fun _ _ => rfl)) pe_int (nomark _))
        (pss_cons (ps_set (i := 2) scTaken.nd rfl (.inl rfl) (pe_op op_mod (pe_callTy call_int1 (by rfl) m2 boot_int (pa_cons (pe_ix ix_list (pv 0) pe_int (fun _ _ => rfl)) pa_nil)) (pv 1)))
        (pss_cons (ps_asg (pe_op op_fdiv (pe_ix ix_list (pv 0) pe_int (fun _ _ => rfl)) (pv 1)) (pg_sub (pv 0) pe_int set_list))
        (pss_one (ps_ret (pv 2))))) pss_nil)
      (pss_cons (ps_asg (pe_op op_add (pe_ix ix_list (pv 0) pe_int (fun _ _ => rfl)) pe_int) (pg_sub (pv 0) pe_int set_list))
      (pss_cons (ps_if (pt_cmpR op_gt (pe_ix ix_list (pv 0) pe_int (fun _ _ => rfl)) (pe_callB call_lenK (by rfl) m1 boot_len (pa_cons (pe_ix ix_list (pv 0) pe_int (fun _ _ => rfl)) pa_nil)) (nomark _))
        (pss_cons (ps_asg (pe_op op_mod (pe_callTy call_int1 (by rfl) m2 boot_int (pa_cons (pe_op op_add (pe_op op_mul (pe_ix ix_list (pv 0) pe_int (fun _ _ => rfl)) pe_int) pe_int) pa_nil)) pe_int) (pg_sub (pv 0) pe_int set_list))
        (pss_one (ps_ret (pe_op op_mod (pe_callTy call_int1 (by rfl) m2 boot_int (pa_cons (pe_op op_fdiv (pe_ix ix_list (pv 0) pe_int (fun _ _ => rfl)) pe_int) pa_nil)) (pv 1))))) pss_nil)
      (pss_cons (ps_set (i := 3) scTaken.nd rfl (.inl rfl) (pe_ix ix_list (pe_ix ix_list (pv 0) pe_int (fun _ _ => rfl)) (pe_op op_sub (pe_ix ix_list (pv 0) pe_int (fun _ _ => rfl)) pe_int) (fun _ _ => rfl)))
      (pss_cons (ps_asg (pe_op op_mod (pe_callTy call_int1 (by rfl) m2 boot_int (pa_cons (pe_op op_add (pe_op op_add (pe_op op_mul (pe_ix ix_list (pv 0) pe_int (fun _ _ => rfl)) pe_int) (pv 3)) pe_int) pa_nil)) pe_int) (pg_sub (pv 0) pe_int set_list))
      (pss_cons (ps_if (pt_cmpR op_ge (pv 3) (pe_op op_pow pe_int pe_int) (nomark _)) (pss_one (ps_asg (pe_op op_fdiv (pv 3) (pv 1)) (pg_sub (pv 0) pe_int set_list))) pss_nil)
      (pss_one (ps_ret (pe_op op_mod (pe_callTy call_int1 (by rfl) m2 boot_int (pa_cons (pv 3) pa_nil)) (pv 1))))))))), ?_⟩
    -- if row[3] > 0
    refine ⟨_, rfl, r, _, (3 : Nat), .int d, rfl, rfl, SqL.of hH, atI_nat rfl, d, 0, rfl, rfl, _, rfl, ite2 (fun _ => ?_) (fun _ => ?_)⟩
    · obtain ⟨j, ej, hj⟩ := emod_nat (a := d) (n := n) (by omega)
      refine ⟨_, rfl, r, _, (3 : Nat), .int d, rfl, rfl, SqL.of hH, atI_nat rfl, .inl ⟨d, rfl, ?_⟩⟩
      refine ⟨_, rfl, d, n, rfl, rfl, by omega, ?_⟩
      refine ⟨_, rfl, r, _, (3 : Nat), .int d, rfl, rfl, SqL.of hH, atI_nat rfl, _, rfl, d, n, rfl, rfl, ⟨by omega, by omega⟩, ?_⟩
      refine ⟨_, rfl, r, _, 3, 3, rfl, rfl, hH, rfl, ?_⟩
      refine ⟨_, rfl, ?_⟩
      have e : V.int (d % n) = V.int j := by rw [ej]
      show Q (.int (d % n)) _
      rw [e]
      exact q j i c (d / n) hj hi
    · -- row[1] = row[1] + 1
      refine ⟨_, rfl, r, _, (1 : Nat), .int i, rfl, rfl, SqL.of hH, atI_nat rfl, i, 1, rfl, rfl, ?_⟩
      refine ⟨_, rfl, r, _, 1, 1, rfl, rfl, hH, rfl, ?_⟩
      have h1 : (upd H r (.lst (rowV sc (i + 1) c d))) r = some (.lst (rowV sc (i + 1) c d)) := upd_same
      have hs1 := hs (rowV sc (i + 1) c d)
      -- if row[1] > len(row[0])
      refine ⟨_, rfl, r, _, (1 : Nat), .int (i + 1), rfl, rfl, SqL.of h1, atI_nat rfl, _, rfl, r, _, (0 : Nat), .ref sc, rfl, rfl, SqL.of h1, atI_nat rfl, sc, _, rfl, .inl hs1, i + 1, _, rfl, rfl, _, rfl, ite2 (fun _ => ?_) (fun e => ?_)⟩
      · refine ⟨_, rfl, r, _, (2 : Nat), .int c, rfl, rfl, SqL.of h1, atI_nat rfl, c, 48271, rfl, rfl, .inr ⟨by decide, by decide⟩, _, 11, rfl, rfl, .inl ⟨_, rfl, ?_⟩⟩
        refine ⟨_, 2147483647, rfl, rfl, (by show (0 : Int) < 2147483647; decide), ?_⟩
        refine ⟨_, rfl, r, _, 2, 2, rfl, rfl, h1, rfl, ?_⟩
        obtain ⟨j, ej, hj⟩ := emod_nat (a := (c * 48271 + 11) % 2147483647 / 7) (n := n) (by omega)
        refine ⟨_, rfl, r, _, (2 : Nat), .int ((c * 48271 + 11) % 2147483647), rfl, rfl, SqL.of upd_same, atI_nat rfl, _, 7, rfl, rfl, ⟨by decide, by decide⟩, .inl ⟨_, rfl, ?_⟩⟩
        refine ⟨_, rfl, _, n, rfl, rfl, by omega, ?_⟩
        have e : V.int ((c * 48271 + 11) % 2147483647 / 7 % n) = V.int j := by rw [ej]
        show Q (.int ((c * 48271 + 11) % 2147483647 / 7 % n)) (upd (upd H r _) r _)
        rw [e, upd_upd]
        exact q j (i + 1) _ d hj (by omega)
      · -- the cell
        have hlen : i < ((ns.map V.int).length : Int) := by
          have e' := of_decide_eq_false (eq_false_of_ne_true e)
          omega
        obtain ⟨i0, ei⟩ : ∃ i0 : Nat, i = (i0 : Int) := ⟨i.toNat, (Int.toNat_of_nonneg hi).symm⟩
        have hi0 : i0 < ns.length := by
          rw [List.length_map] at hlen
          omega
        have gc : (ns.map V.int)[i0]? = some (.int ns[i0]) := by
          rw [List.getElem?_map, List.getElem?_eq_getElem hi0]
          rfl
        generalize ns[i0] = cell at gc
        have at1 : atI (ns.map V.int) (i + 1 - 1) = some (.int cell) := by
          rw [show i + 1 - 1 = (i0 : Int) by omega]
          exact atI_nat gc
        refine ⟨_, rfl, r, _, (0 : Nat), .ref sc, rfl, rfl, SqL.of h1, atI_nat rfl, _, rfl, r, _, (1 : Nat), .int (i + 1), rfl, rfl, SqL.of h1, atI_nat rfl, i + 1, 1, rfl, rfl, sc, _, _, .int cell, rfl, rfl, hs1, at1, ?_⟩
        -- row[2] = ..
        refine ⟨_, rfl, r, _, (2 : Nat), .int c, rfl, rfl, SqL.of h1, atI_nat rfl, c, 48271, rfl, rfl, .inr ⟨by decide, by decide⟩, _, rfl, _, cell, rfl, rfl, _, 11, rfl, rfl, .inl ⟨_, rfl, ?_⟩⟩
        refine ⟨_, 2147483647, rfl, rfl, (by show (0 : Int) < 2147483647; decide), ?_⟩
        refine ⟨_, rfl, r, _, 2, 2, rfl, rfl, h1, rfl, ?_⟩
        rw [upd_upd]
        obtain ⟨j, ej, hj⟩ := emod_nat (a := cell) (n := n) (by omega)
        have e : V.int (cell % n) = V.int j := by rw [ej]
        -- if cell >= 10 ** 18
        refine ⟨_, rfl, 10, 18, rfl, rfl, ⟨by decide, by decide, by decide⟩, cell, _, rfl, rfl, _, rfl, ite2 (fun _ => ?_) (fun _ => ?_)⟩
        · refine ⟨_, rfl, _, rfl, cell, n, rfl, rfl, ⟨by omega, by omega⟩, ?_⟩
          refine ⟨_, rfl, r, _, 3, 3, rfl, rfl, upd_same, rfl, ?_⟩
          refine ⟨_, rfl, .inl ⟨cell, rfl, _, rfl, cell, n, rfl, rfl, by omega, ?_⟩⟩
          show Q (.int (cell % n)) (upd (upd H r _) r _)
          rw [e, upd_upd]
          exact q j (i + 1) _ _ hj (by omega)
        · refine ⟨_, rfl, .inl ⟨cell, rfl, _, rfl, cell, n, rfl, rfl, by omega, ?_⟩⟩
          show Q (.int (cell % n)) (upd H r _)
          rw [e]
          exact q j (i + 1) _ _ hj (by omega)

/-! ### _law_pick -/
abbrev sPick : Stmt := topS 21
abbrev nPick : List Str := ["_law_row", "_law_things"]
theorem scPick : FnScope nPick ["_law_row", "_law_things"] (defScope sPick) := ⟨rfl, rfl, rfl, by decide +kernel, rfl, by decide +kernel, by decide +kernel⟩
def spPick (K : PySem.W.Frag) : Sp := fun vs H Q _ => ∃ (r s : Addr) (ns : List Int) (i c d : Int) (t : Addr) (ts : List V), vs = [.ref r, .ref t] ∧ (1 ≤ ts.length ∧ ts.length ≤ 1000) ∧ H r = some (.lst (rowV s i c d)) ∧ 0 ≤ i ∧ (∀ R, SqL K (upd H r (.lst R)) s (ns.map V.int)) ∧ H t = some (.lst ts) ∧ t ≠ r ∧
  ∀ (j : Nat) v i' c' d', ts[j]? = some v → 0 ≤ i' → Q v (upd H r (.lst (rowV s i' c' d')))
theorem fn_pick (T : There K mg "_law_pick" sPick ["_law_row", "_law_things"]) (m1 : mg "len" = none) (GT : Fn P w K mg base k "_law_taken" ["_law_row", "_law_many"] (spTaken K)) : Fn P w K mg base (k + 1) "_law_pick" ["_law_row", "_law_things"] (spPick K) := by
  refine T.fn fun f fd F => F.ok scPick (fun vs H Q E h => ?_) (fun cdv A outer s H vs Q E hr h => ?_)
  · obtain ⟨r, s, ns, i, c, d, t, ts, rfl, _⟩ := h
    rfl
  · obtain ⟨r, sc, ns, i, c, d, t, ts, rfl, hn, hH, hi, hs, ht, hne, q⟩ := h
    refine ⟨_, pss_one (ps_ret (pe_ix ix_list (pv 1) (pe_fn GT hr (by rfl) (pa_cons (pv 0) (pa_cons (pe_callB call_lenK (by rfl) m1 boot_len (pa_cons (pv 1) pa_nil)) pa_nil))) (fun _ _ => rfl))), ?_⟩
    refine ⟨_, rfl, _, rfl, _, rfl, t, ts, rfl, .inl (SqL.of ht), ?_⟩
    refine ⟨r, sc, ns, i, c, d, _, rfl, ⟨by omega, by omega⟩, hH, hi, hs, fun j i' c' d' hj h' => ?_⟩
    have hj' : j < ts.length := by omega
    have g := List.getElem?_eq_getElem hj'
    have ht' : (upd H r (.lst (rowV sc i' c' d'))) t = some (.lst ts) := by
      rw [upd_ne hne]
      exact ht
    exact ⟨t, ts, _, ts[j], rfl, rfl, SqL.of ht', atI_nat g, q j _ i' c' d' g h'⟩

/-! ### _law_alike -/
abbrev sAlike : Stmt := topS 22
abbrev nAlike : List Str := ["_law_found", "_law_due", "_law_k"]
theorem scAlike : FnScope nAlike ["_law_found", "_law_due"] (defScope sAlike) := ⟨rfl, rfl, rfl, by decide +kernel, rfl, by decide +kernel, by decide +kernel⟩
/-- a tuple that is not long; a list of such -/
def TupB (t : List Int) : VP := fun v H => TupOf t v H ∧ t.length ≤ 1000
instance {t : List Int} : Mono (TupB t) := ⟨fun s ⟨h, z⟩ => ⟨Mono.up s h, z⟩⟩
def LotB (ts : List (List Int)) : VP := fun v H => LotOf ts v H ∧ ts.length ≤ 1000 ∧ ∀ t ∈ ts, t.length ≤ 1000
instance {ts : List (List Int)} : Mono (LotB ts) := ⟨fun s ⟨h, z⟩ => ⟨Mono.up s h, z⟩⟩
/-- two things of one kind and one content -/
def spAlike {α : Type} (R : α → VP) : Sp := fun vs H Q _ => ∃ a x y, vs = [x, y] ∧ R a x H ∧ R a y H ∧ ∀ H', Same H H' → Q (.bl true) H'
theorem kit_int_seq : PySem.W.kitAny K (.type "int") [.type "tuple", .type "list"] = some false :=
  kitAny_cons (b := false) (kit_ty (by decide +kernel)) (fun _ => kitAny_cons (b := false) (kit_ty (by decide +kernel)) (fun _ => kitAny_nil) (fun z => nomatch z)) (fun z => nomatch z)
theorem kit_tup_seq : PySem.W.kitAny K (.type "tuple") [.type "tuple", .type "list"] = some true :=
  kitAny_cons (b := true) (kit_ty (by decide +kernel)) (fun z => nomatch z) (fun _ => rfl)
theorem kit_lst_seq : PySem.W.kitAny K (.type "list") [.type "tuple", .type "list"] = some true :=
  kitAny_cons (b := false) (kit_ty (by decide +kernel)) (fun _ => kitAny_cons (b := true) (kit_ty (by decide +kernel)) (fun z => nomatch z) (fun _ => rfl)) (fun z => nomatch z)
theorem cls2 : Paired ClsV [.ty "tuple", .ty "list"] [.type "tuple", .type "list"] := .cons (.ty _) (.cons (.ty _) .nil)
instance tupP_mono : Mono (fun v H => ∃ p, v = V.ref p ∧ H p = some (HO.tup [.ty "tuple", .ty "list"])) := ⟨fun s ⟨p, e, h⟩ => ⟨p, e, s _ _ h⟩⟩
section
variable {σ : L2.St} {H : Hp} {ta tb : TE} {PA : VP} [Mono PA]
theorem ev_isi {u : String} {t : Value} {b : Bool} (h : Ev ta σ H PA) (ty : ∀ x H1, PA x H1 → TyX K H1 x t) (e : PySem.W.kitOne K t (.type u) = some b) : Ev (tCB (rIsi K) (tCons ta (tCons (tC (.ty u)) tNil))) σ H (Is (.bl b)) :=
  ev_cb (ea_cons h (ea_cons ev_c ea_nil)) fun vs H1 _ p Q q => by
    obtain ⟨x, _, rfl, hx, _, _, rfl, rfl, rfl⟩ := p
    exact ⟨x, .ty u, t, .type u, b, rfl, .ty u, ty x H1 hx, e, q _ _ (Same.refl _) rfl⟩
theorem ev_isiT {t : Value} {b : Bool} (h : Ev ta σ H PA) (ty : ∀ x H1, PA x H1 → TyX K H1 x t) (e : PySem.W.kitAny K t [.type "tuple", .type "list"] = some b) :
    Ev (tCB (rIsiT K) (tCons ta (tCons (tTup (tCons (tC (.ty "tuple")) (tCons (tC (.ty "list")) tNil))) tNil))) σ H (Is (.bl b)) :=
  ev_cb (ea_cons h (ea_cons (P := fun v H => ∃ p, v = .ref p ∧ H p = some (.tup [.ty "tuple", .ty "list"])) (ev_tup (ea_cons ev_c (ea_cons ev_c ea_nil)) fun vs H1 p => by
    obtain ⟨_, _, rfl, rfl, _, _, rfl, rfl, rfl⟩ := p
    exact ⟨by simp, fun p _ => ⟨p, rfl, upd_same⟩⟩) ea_nil)) fun vs H1 _ p Q q => by
    obtain ⟨x, _, rfl, hx, _, _, rfl, ⟨tp, rfl, htp⟩, rfl⟩ := p
    exact ⟨x, tp, _, t, _, b, rfl, htp, cls2, ty x H1 hx, e, q _ _ (Same.refl _) rfl⟩
end
section
variable {X : Cx} {σ : L2.St} {H : Hp} {ta tb : TE}
theorem ev_isN {x : V} (h : Ev ta σ H (Is x)) : Ev (tOp (fun x y H Q => y = .non ∧ Q (.bl (decide (x = .non))) H) ta (tC .non)) σ H (Is (.bl (decide (x = .non)))) :=
  ev_op2 h ev_c fun H1 _ _ q => ⟨rfl, q _ H1 (Same.refl _) rfl⟩
theorem ev_alike {α : Type} {R : α → VP} [∀ a, Mono (R a)] (a : α) (h1 : Ev ta σ H (R a)) (h2 : Ev tb σ H (R a)) : Ev (tCall (spAlike R) [] E0 (tCons ta (tCons tb tNil))) σ H (Is (.bl true)) :=
  ev_call (ea_cons h1 (ea_cons h2 ea_nil)) fun vs H1 _ p Q q => by
    obtain ⟨x, _, rfl, hx, y, _, rfl, hy, rfl⟩ := p
    exact ⟨a, x, y, rfl, hx, hy, fun H' s => q _ H' s rfl⟩
end
theorem fn_alikeI (T : There K mg "_law_alike" sAlike ["_law_found", "_law_due"]) (mi : mg "isinstance" = none) (mt : mg "tuple" = none) (ml : mg "list" = none) (ms : mg "str" = none) (mn : mg "int" = none) (mb : mg "bool" = none) :
    Fn P w K mg base (k + 1) "_law_alike" ["_law_found", "_law_due"] (spAlike IntI) := by
  refine T.fn fun f fd F => F.ok scAlike (fun vs H Q E h => ?_) (fun cdv A outer s H vs Q E hr h => ?_)
  · obtain ⟨a, x, y, rfl, _⟩ := h
    rfl
  · obtain ⟨a, x, y, rfl, rfl, rfl, q⟩ := h
    refine ⟨_, pss_cons (ps_if (pt_val (pe_callB (r := rIsiT K) call_isiT (by rfl) mi boot_isinstance (pa_cons (pv 1) (pa_cons (pe_tup (pa_cons (pe_bltn (v := .ty "tuple") (by rfl) mt boot_tuple rfl) (pa_cons (pe_bltn (v := .ty "list") (by rfl) ml boot_list rfl) pa_nil))) pa_nil)))) pss_never pss_nil)
      (pss_cons (ps_if (PW.pt (pw_or (pt_cmpR op_isN (pv 1) pe_non (nomark _)) (pw_or1 (pt_val (pe_callB (r := rIsi K) call_isi (by rfl) mi boot_isinstance (pa_cons (pv 1) (pa_cons (pe_bltn (v := .ty "str") (by rfl) ms boot_str rfl) pa_nil))))))) pss_never pss_nil)
      (pss_one (ps_ret (pe_and (pe_callB (r := rIsi K) call_isi (by rfl) mi boot_isinstance (pa_cons (pv 0) (pa_cons (pe_bltn (v := .ty "int") (by rfl) mn boot_int rfl) pa_nil)))
        (pe_and (pe_cmpR op_eq (pe_callB (r := rIsi K) call_isi (by rfl) mi boot_isinstance (pa_cons (pv 0) (pa_cons (pe_bltn (v := .ty "bool") (by rfl) mb boot_bool rfl) pa_nil)))
            (pe_callB (r := rIsi K) call_isi (by rfl) mi boot_isinstance (pa_cons (pv 1) (pa_cons (pe_bltn (v := .ty "bool") (by rfl) mb boot_bool rfl) pa_nil))) (nomark _))
          (pe_one (pe_cmpR op_eq (pv 0) (pv 1) (nomark _)))))))), ?_⟩
    have ty : ∀ x H1, Is (.int a) x H1 → TyX K H1 x (.type "int") := fun x H1 h => by
      cases h
      exact .base (.int a)
    refine q_pass (et_B (ev_isiT (ev_var rfl) ty kit_int_seq)) fun H1 s1 => ?_
    refine q_pass ((et_or (b := false) (et_test (ev_isN (ev_var rfl))) fun _ => et_B (ev_isi (ev_var rfl) ty (kit_ty (by decide +kernel)))).is rfl) fun H2 s2 => ?_
    refine s_ret (D := { nx := fun _ H' => Q .non H', rt := Q }) (P := Is (.bl true)) ?_ fun v H3 s3 hv => by
      cases hv
      exact q H3 ((s1.trans s2).trans s3)
    refine (ev_andB (b := true) (ev_isi (b := true) (ev_var rfl) ty (kit_ty (by decide +kernel))) fun _ => (ev_andB (b := true) ((ev_eq (ev_isi (b := false) (ev_var rfl) ty (kit_ty (by decide +kernel))) (ev_isi (b := false) (ev_var rfl) ty (kit_ty (by decide +kernel))) rfl).is rfl) fun _ => (ev_eq (ev_var rfl) (ev_var rfl) rfl).is (by rw [decide_eq_true rfl])).is rfl).is rfl
theorem rng_none (n : Int) : (((rng 0 n).filter fun _ => false).map fun p => p) = [] := by
  rw [List.map_eq_nil_iff, List.filter_eq_nil_iff]
  intro _ _ h
  cases h
theorem fn_alikeT (T : There K mg "_law_alike" sAlike ["_law_found", "_law_due"]) (mi : mg "isinstance" = none) (mt : mg "tuple" = none) (ml : mg "list" = none) (m1 : mg "len" = none) (m2 : mg "range" = none)
    (G : Fn P w K mg base k "_law_alike" ["_law_found", "_law_due"] (spAlike IntI)) : Fn P w K mg base (k + 1) "_law_alike" ["_law_found", "_law_due"] (spAlike TupB) := by
  refine T.fn fun f fd F => F.ok scAlike (fun vs H Q E h => ?_) (fun cdv A outer s H vs Q E hr h => ?_)
  · obtain ⟨a, x, y, rfl, _⟩ := h
    rfl
  · obtain ⟨a, x, y, rfl, ⟨hx, hz⟩, ⟨hy, _⟩, q⟩ := h
    refine ⟨_, pss_cons (ps_if (pt_val (pe_callB (r := rIsiT K) call_isiT (by rfl) mi boot_isinstance (pa_cons (pv 1) (pa_cons (pe_tup (pa_cons (pe_bltn (v := .ty "tuple") (by rfl) mt boot_tuple rfl) (pa_cons (pe_bltn (v := .ty "list") (by rfl) ml boot_list rfl) pa_nil))) pa_nil))))
        (pss_cons (ps_if (PW.pt (pw_or (pt_not (pt_val (pe_callB (r := rIsiT K) call_isiT (by rfl) mi boot_isinstance (pa_cons (pv 0) (pa_cons (pe_tup (pa_cons (pe_bltn (v := .ty "tuple") (by rfl) mt boot_tuple rfl) (pa_cons (pe_bltn (v := .ty "list") (by rfl) ml boot_list rfl) pa_nil))) pa_nil)))))
            (pw_or1 (pt_cmpR op_ne (pe_callB (r := rIsi K) call_isi (by rfl) mi boot_isinstance (pa_cons (pv 0) (pa_cons (pe_bltn (v := .ty "list") (by rfl) ml boot_list rfl) pa_nil)))
              (pe_callB (r := rIsi K) call_isi (by rfl) mi boot_isinstance (pa_cons (pv 1) (pa_cons (pe_bltn (v := .ty "list") (by rfl) ml boot_list rfl) pa_nil))) (nomark _))))) pss_never pss_nil)
        (pss_cons (ps_if (pt_cmpR op_ne (pe_callB (r := rLenK K) call_lenK (by rfl) m1 boot_len (pa_cons (pv 0) pa_nil)) (pe_callB (r := rLenK K) call_lenK (by rfl) m1 boot_len (pa_cons (pv 1) pa_nil)) (nomark _)) pss_never pss_nil)
        (pss_one (ps_ret (pe_cmpR (op_eqD hr.units) (pe_lc (own := [("_law_k", 2)]) (g := gName 2) rfl scAlike.nd (pi_range1 (by rfl) m2 (pa_cons (pe_callB (r := rLenK K) call_lenK (by rfl) m1 boot_len (pa_cons (pv 1) pa_nil)) pa_nil)) (blkOk_by (N := nAlike) (sc := defScope sAlike) (by decide +kernel)) (fun _ _ _ _ _ => pg_name (i := 2) scAlike.nd rfl (Or.inl rfl))
            (fun _ _ _ _ _ => pts_one (pt_not (pt_val (pe_fn G hr (by rfl) (pa_cons (pe_ix (r := rIxT K) ix_tup (pv 0) (pv 2) (fun _ _ => rfl)) (pa_cons (pe_ix (r := rIxT K) ix_tup (pv 1) (pv 2) (fun _ _ => rfl)) pa_nil))))))
            (fun _ _ _ _ _ => pv 2)) (pe_lst pa_nil) (nomark _)))))) pss_nil)
      pss_never, ?_⟩
    have ty : ∀ x H1, TupOf a x H1 → TyX K H1 x (.type "tuple") := fun x H1 h => by
      obtain ⟨t, rfl, e⟩ := h
      exact .base (.tup e)
    refine q_enter (et_B (ev_isiT (ev_varP rfl hy) ty kit_tup_seq)) fun H1 s1 => ?_
    refine q_pass ((et_or (b := false) (et_not (et_B (ev_isiT (ev_varP rfl (Mono.up s1 hx)) ty kit_tup_seq))) fun _ => (et_test (ev_ne (ev_isi (b := false) (ev_varP rfl (Mono.up s1 hx)) ty (kit_ty (by decide +kernel))) (ev_isi (b := false) (ev_varP rfl (Mono.up s1 hy)) ty (kit_ty (by decide +kernel))) rfl)).is rfl).is rfl) fun H2 s2 => ?_
    have hx2 := Mono.up (s1.trans s2) hx
    have hy2 := Mono.up (s1.trans s2) hy
    refine q_pass ((et_test (ev_ne (ev_lenT (ev_varP rfl hx2)) (ev_lenT (ev_varP rfl hy2)) rfl)).is (by rw [decide_eq_true rfl]; rfl)) fun H3 s3 => ?_
    have hx3 := Mono.up s3 hx2
    have hy3 := Mono.up s3 hy2
    refine s_ret (P := Is (.bl true)) ?_ fun v H4 s4 hv => by
      cases hv
      exact q H4 (((s1.trans s2).trans s3).trans s4)
    refine (ev_eqII (a := []) (b := []) ((ev_lcR1 (RB := IntI) (a.length : Int) (fun _ => false) (fun p => p) (ea_cons (ev_lenT (ev_varP rfl hy3)) ea_nil) (by omega) (by omega) (fun _ => rfl) (fun c hc H5 s5 => ?_) (fun _ _ h => nomatch h)).imp fun v H5 _ h => ?_) ev_nil).is (by rw [decide_eq_true rfl])
    · have hb := rng_mem hc
      obtain ⟨j, ej⟩ : ∃ j : Nat, c = (j : Int) := ⟨c.toNat, (Int.toNat_of_nonneg hb.1).symm⟩
      subst ej
      have hj : j < a.length := by omega
      have g := List.getElem?_eq_getElem hj
      exact et_not (et_B (ev_alike (R := IntI) a[j] (ev_ixT (ev_varP rfl (Mono.up s5 hx3)) g (ev_var rfl)) (ev_ixT (ev_varP rfl (Mono.up s5 hy3)) g (ev_var rfl))))
    · rw [rng_none] at h
      exact h
theorem fn_alikeL (T : There K mg "_law_alike" sAlike ["_law_found", "_law_due"]) (mi : mg "isinstance" = none) (mt : mg "tuple" = none) (ml : mg "list" = none) (m1 : mg "len" = none) (m2 : mg "range" = none)
    (G : Fn P w K mg base k "_law_alike" ["_law_found", "_law_due"] (spAlike TupB)) : Fn P w K mg base (k + 1) "_law_alike" ["_law_found", "_law_due"] (spAlike LotB) := by
  refine T.fn fun f fd F => F.ok scAlike (fun vs H Q E h => ?_) (fun cdv A outer s H vs Q E hr h => ?_)
  · obtain ⟨a, x, y, rfl, _⟩ := h
    rfl
  · obtain ⟨a, x, y, rfl, ⟨hx, hz, ht⟩, ⟨hy, _, _⟩, q⟩ := h
    refine ⟨_, pss_cons (ps_if (pt_val (pe_callB (r := rIsiT K) call_isiT (by rfl) mi boot_isinstance (pa_cons (pv 1) (pa_cons (pe_tup (pa_cons (pe_bltn (v := .ty "tuple") (by rfl) mt boot_tuple rfl) (pa_cons (pe_bltn (v := .ty "list") (by rfl) ml boot_list rfl) pa_nil))) pa_nil))))
        (pss_cons (ps_if (PW.pt (pw_or (pt_not (pt_val (pe_callB (r := rIsiT K) call_isiT (by rfl) mi boot_isinstance (pa_cons (pv 0) (pa_cons (pe_tup (pa_cons (pe_bltn (v := .ty "tuple") (by rfl) mt boot_tuple rfl) (pa_cons (pe_bltn (v := .ty "list") (by rfl) ml boot_list rfl) pa_nil))) pa_nil)))))
            (pw_or1 (pt_cmpR op_ne (pe_callB (r := rIsi K) call_isi (by rfl) mi boot_isinstance (pa_cons (pv 0) (pa_cons (pe_bltn (v := .ty "list") (by rfl) ml boot_list rfl) pa_nil)))
              (pe_callB (r := rIsi K) call_isi (by rfl) mi boot_isinstance (pa_cons (pv 1) (pa_cons (pe_bltn (v := .ty "list") (by rfl) ml boot_list rfl) pa_nil))) (nomark _))))) pss_never pss_nil)
        (pss_cons (ps_if (pt_cmpR op_ne (pe_callB (r := rLenK K) call_lenK (by rfl) m1 boot_len (pa_cons (pv 0) pa_nil)) (pe_callB (r := rLenK K) call_lenK (by rfl) m1 boot_len (pa_cons (pv 1) pa_nil)) (nomark _)) pss_never pss_nil)
        (pss_one (ps_ret (pe_cmpR (op_eqD hr.units) (pe_lc (own := [("_law_k", 2)]) (g := gName 2) rfl scAlike.nd (pi_range1 (by rfl) m2 (pa_cons (pe_callB (r := rLenK K) call_lenK (by rfl) m1 boot_len (pa_cons (pv 1) pa_nil)) pa_nil)) (blkOk_by (N := nAlike) (sc := defScope sAlike) (by decide +kernel)) (fun _ _ _ _ _ => pg_name (i := 2) scAlike.nd rfl (Or.inl rfl))
            (fun _ _ _ _ _ => pts_one (pt_not (pt_val (pe_fn G hr (by rfl) (pa_cons (pe_ix (r := rIxL K) ix_list (pv 0) (pv 2) (fun _ _ => rfl)) (pa_cons (pe_ix (r := rIxL K) ix_list (pv 1) (pv 2) (fun _ _ => rfl)) pa_nil))))))
            (fun _ _ _ _ _ => pv 2)) (pe_lst pa_nil) (nomark _)))))) pss_nil)
      pss_never, ?_⟩
    have ty : ∀ x H1, LotOf a x H1 → TyX K H1 x (.type "list") := fun x H1 h => by
      obtain ⟨t, _, rfl, e, _⟩ := h
      exact .base (.lst e)
    refine q_enter (et_B (ev_isiT (ev_varP rfl hy) ty kit_lst_seq)) fun H1 s1 => ?_
    refine q_pass ((et_or (b := false) (et_not (et_B (ev_isiT (ev_varP rfl (Mono.up s1 hx)) ty kit_lst_seq))) fun _ => (et_test (ev_ne (ev_isi (b := true) (ev_varP rfl (Mono.up s1 hx)) ty (kit_ty (by decide +kernel))) (ev_isi (b := true) (ev_varP rfl (Mono.up s1 hy)) ty (kit_ty (by decide +kernel))) rfl)).is rfl).is rfl) fun H2 s2 => ?_
    have hx2 := Mono.up (s1.trans s2) hx
    have hy2 := Mono.up (s1.trans s2) hy
    refine q_pass ((et_test (ev_ne (ev_lenL (ev_varP rfl hx2)) (ev_lenL (ev_varP rfl hy2)) rfl)).is (by rw [decide_eq_true rfl]; rfl)) fun H3 s3 => ?_
    have hx3 := Mono.up s3 hx2
    have hy3 := Mono.up s3 hy2
    refine s_ret (P := Is (.bl true)) ?_ fun v H4 s4 hv => by
      cases hv
      exact q H4 (((s1.trans s2).trans s3).trans s4)
    refine (ev_eqII (a := []) (b := []) ((ev_lcR1 (RB := IntI) (a.length : Int) (fun _ => false) (fun p => p) (ea_cons (ev_lenL (ev_varP rfl hy3)) ea_nil) (by omega) (by omega) (fun _ => rfl) (fun c hc H5 s5 => ?_) (fun _ _ h => nomatch h)).imp fun v H5 _ h => ?_) ev_nil).is (by rw [decide_eq_true rfl])
    · have hb := rng_mem hc
      obtain ⟨j, ej⟩ : ∃ j : Nat, c = (j : Int) := ⟨c.toNat, (Int.toNat_of_nonneg hb.1).symm⟩
      subst ej
      have hj : j < a.length := by omega
      have g := List.getElem?_eq_getElem hj
      have hb2 : a[j].length ≤ 1000 := ht _ (List.getElem_mem hj)
      exact et_not (et_B (ev_alike (R := TupB) a[j] ((ev_ixL (R := TupOf) (ev_varP rfl (Mono.up s5 hx3)) g (ev_var rfl)).imp fun _ _ _ h => ⟨h, hb2⟩) ((ev_ixL (R := TupOf) (ev_varP rfl (Mono.up s5 hy3)) g (ev_var rfl)).imp fun _ _ _ h => ⟨h, hb2⟩)))
    · rw [rng_none] at h
      exact h
end
end Fs

/-! The law itself. -/
namespace Fs
open PySem PySem.Spec PyProof.Rows L2

/-! ### sorted, the tuples' length told later -/
theorem cr_sortX {X : Cx} : CallR X (.builtin "sorted") (fun vs H Q => ∃ d, 1 ≤ d ∧ rSortU X.K d 256 vs H Q) := by
  intro pins s σ H vs us Q I r ⟨d, hd, h⟩
  exact cr_sortT hd pins s σ H vs us Q I r h
section
variable {K : PySem.W.Frag} {σ : L2.St} {H : Hp} {ta tb tl : TE} {D : Ends} {tu tw : TS} {g : TG}
theorem ev_sortX {d : Nat} {ts : List (List Int)} (hd : 1 ≤ d) (h : Ev ta σ H (LotOf ts)) (h64 : ts.length < 64) (ok : ts.all (okT d) = true) : Ev (tCB (fun vs H Q => ∃ d, 1 ≤ d ∧ rSortU K d 256 vs H Q) (tCons ta tNil)) σ H (LotOf (sortT ts)) := fun H1 e Q q => by
  have k := ev_sortT (K := K) h h64 ok H1 e Q q
  exact h H1 e _ fun v H2 e2 p => ⟨d, hd, (ev_sortT (K := K) (ta := tC v) (σ := σ) (H := H2) (ev_c.imp fun x H3 s e => by cases e; exact Mono.up s p) h64 ok) H2 (Same.refl _) Q fun v' H3 e3 p3 => q v' H3 (e2.trans e3) p3⟩
/-- a loop over a list, its body pure: what stays of the slots -/
theorem s_forL {α : Type} {R : α → VP} [∀ a, Mono (R a)] (as : List α) (h : Ev tl σ H (SeqOf R as)) (Pv : Nat → L2.St → Prop) (h0 : Pv 0 σ)
    (hs : ∀ i a x σ' H', as[i]? = some a → Same H H' → R a x H' → Pv i σ' → ∀ N : L2.St → Hp → Prop, (∀ σ3 H3, Same H' H3 → Pv (i + 1) σ3 → N σ3 H3) → g x σ' H' fun σ2 H2 => tu { D with nx := N, ct := N, bk := D.nx } σ2 H2)
    (hd : ∀ σ' H', Same H H' → Pv as.length σ' → D.nx σ' H') : tFor (iList K tl) g tu D σ H := h H (Same.refl H) _ fun v H1 s1 p => by
  obtain ⟨a, xs, rfl, ha, hr⟩ := p
  refine ⟨a, rfl, ⟨xs, SqL.of ha⟩, for_list (xs := xs) (fun i σ' H' => Same H1 H' ∧ Pv i σ') ⟨Same.refl _, h0⟩ (fun i σ' H' _ hW => SqL.of (hW.1 _ _ ha)) (fun i x σ' H' hx hW => ?_) fun σ' H' hW => ?_⟩
  · obtain ⟨b, hb, rb⟩ := hr.get hx
    exact hs i b x σ' H' hb (s1.trans hW.1) (Mono.up hW.1 rb) hW.2 _ fun σ3 H3 a1 a2 => ⟨hW.1.trans a1, a2⟩
  · rw [hr.length] at hW
    exact hd σ' H' (s1.trans hW.1) hW.2
theorem q_forL {α : Type} {R : α → VP} [∀ a, Mono (R a)] (as : List α) (h : Ev tl σ H (SeqOf R as)) (Pv : Nat → L2.St → Prop) (h0 : Pv 0 σ)
    (hs : ∀ i a x σ' H', as[i]? = some a → Same H H' → R a x H' → Pv i σ' → ∀ N : L2.St → Hp → Prop, (∀ σ3 H3, Same H' H3 → Pv (i + 1) σ3 → N σ3 H3) → g x σ' H' fun σ2 H2 => tu { D with nx := N, ct := N, bk := tw D } σ2 H2)
    (hd : ∀ σ' H', Same H H' → Pv as.length σ' → tw D σ' H') : tSeq (tFor (iList K tl) g tu) tw D σ H := s_forL (D := { D with nx := tw D }) as h Pv h0 hs hd
theorem ev_fixed {m z l f : Int} {res : List (List Int)} {tc td : TE} (hF : FixOk m z l f res) (ha : Ev ta σ H (Is (.int m))) (hb : Ev tb σ H (Is (.int z))) (hc : Ev tc σ H (Is (.int l))) (hd : Ev td σ H (Is (.int f))) :
    Ev (tCall spFixed [] E0 (tCons ta (tCons tb (tCons tc (tCons td tNil))))) σ H (LotOf res) :=
  ev_call (ea_cons ha (ea_cons hb (ea_cons hc (ea_cons hd ea_nil)))) fun vs H1 _ p Q q => by
    obtain ⟨_, _, rfl, rfl, _, _, rfl, rfl, _, _, rfl, rfl, _, _, rfl, rfl, rfl⟩ := p
    exact ⟨m, z, l, f, res, rfl, hF, fun v H' s h => q v H' s h⟩
theorem ev_lcommon {cs : List Int} (hz : cs.length ≤ 1000) (ha : Ev ta σ H (LstOf cs)) : Ev (tCall spLCommon [] E0 (tCons ta tNil)) σ H (Is (optV (lcommonM cs))) :=
  ev_call (ea_cons ha ea_nil) fun vs H1 _ p Q q => by
    obtain ⟨x, _, rfl, hx, rfl⟩ := p
    exact ⟨cs, x, rfl, hz, hx, fun H' s => q _ H' s rfl⟩
theorem ev_sets {n z : Int} (hn : 0 ≤ n ∧ n ≤ 20) (hz : z ≤ 1000) (ha : Ev ta σ H (Is (.int n))) (hb : Ev tb σ H (Is (.int z))) : Ev (tCall spSets [] E0 (tCons ta (tCons tb tNil))) σ H (LotOf (setsM n z)) :=
  ev_call (ea_cons ha (ea_cons hb ea_nil)) fun vs H1 _ p Q q => by
    obtain ⟨_, _, rfl, rfl, _, _, rfl, rfl, rfl⟩ := p
    exact ⟨n, z, rfl, hn, hz, fun v H' s h => q v H' s h⟩
theorem ev_prime {n : Int} (hn : -1000 ≤ n ∧ n ≤ 1000) (ha : Ev ta σ H (Is (.int n))) : Ev (tCall spPrime [] E0 (tCons ta tNil)) σ H (Is (.bl (primeM n))) :=
  ev_call (ea_cons ha ea_nil) fun vs H1 _ p Q q => by
    obtain ⟨_, _, rfl, rfl, rfl⟩ := p
    exact ⟨n, rfl, hn, fun H' s => q _ H' s rfl⟩
theorem g_if {i : Nat} {v : V} {tc : TT} {u1 u2 : TS} (h : tIfS tc u1 u2 D (σ.set i (some v)) H) : gName i v σ H (fun σ2 H2 => tIfS tc u1 u2 D σ2 H2) := h
/-- a tuple of three | five written ints -/
theorem ev_tup3 {a b c : Int} : Ev (tTup (tCons (tC (.int a)) (tCons (tC (.int b)) (tCons (tC (.int c)) tNil)))) σ H (TupOf [a, b, c]) := ev_tup (ea_cons ev_c (ea_cons ev_c (ea_cons ev_c ea_nil))) fun vs H1 p => by
  obtain ⟨_, _, rfl, rfl, _, _, rfl, rfl, _, _, rfl, rfl, rfl⟩ := p
  exact ⟨by simp, fun p _ => ⟨p, rfl, upd_same⟩⟩
theorem ev_tup5 {a b c d e : Int} : Ev (tTup (tCons (tC (.int a)) (tCons (tC (.int b)) (tCons (tC (.int c)) (tCons (tC (.int d)) (tCons (tC (.int e)) tNil)))))) σ H (TupOf [a, b, c, d, e]) := ev_tup (ea_cons ev_c (ea_cons ev_c (ea_cons ev_c (ea_cons ev_c (ea_cons ev_c ea_nil))))) fun vs H1 p => by
  obtain ⟨_, _, rfl, rfl, _, _, rfl, rfl, _, _, rfl, rfl, _, _, rfl, rfl, _, _, rfl, rfl, rfl⟩ := p
  exact ⟨by simp, fun p _ => ⟨p, rfl, upd_same⟩⟩
/-- a written list of things -/
theorem ea_all0 {α : Type} {R : α → VP} : Ea tNil σ H (fun vs H1 => All2 R H1 [] vs) := fun H1 _ _ q => q [] H1 (Same.refl _) .nil
theorem ea_allC {α : Type} {R : α → VP} [∀ a, Mono (R a)] {a : α} {as : List α} {tr : TA} (h : Ev ta σ H (R a)) (hr : Ea tr σ H (fun vs H1 => All2 R H1 as vs)) : Ea (tCons ta tr) σ H (fun vs H1 => All2 R H1 (a :: as) vs) := fun H1 e _ q =>
  h H1 e _ fun v H2 e2 p => hr H2 (e.trans e2) _ fun ws H3 e3 p3 => q _ H3 (e2.trans e3) (.cons (Mono.up e3 p) p3)
theorem ev_lsts {α : Type} {R : α → VP} [∀ a, Mono (R a)] {as : List α} {tr : TA} (h : Ea tr σ H (fun vs H1 => All2 R H1 as vs)) (hz : as.length ≤ 1000) : Ev (tLst tr) σ H (SeqOf R as) := ev_lst h fun vs H1 p =>
  ⟨by rw [p.length]; exact hz, fun a na => ⟨a, vs, rfl, upd_same, p.up (same_new na)⟩⟩
end

/-! ### what a change of the row leaves -/
section
variable {H : Hp} {r s : Addr} {i c d : Int} {R' : List V}
theorem row_tup {t : List Int} {v : V} (h : H r = some (.lst (rowV s i c d))) (p : TupOf t v H) : TupOf t v (upd H r (.lst R')) := Firm.st h p
theorem row_all2 {ts : List (List Int)} {vs : List V} (h : H r = some (.lst (rowV s i c d))) (p : All2 TupOf H ts vs) : All2 TupOf (upd H r (.lst R')) ts vs := all2_upd p h fun _ _ q => row_tup h q
theorem row_lot {ts : List (List Int)} {v : V} (h : H r = some (.lst (rowV s i c d))) (p : LotOf ts v H) : LotOf ts v (upd H r (.lst R')) := by
  obtain ⟨t, vs, rfl, e, q⟩ := p
  refine ⟨t, vs, rfl, ?_, row_all2 h q⟩
  rw [upd_ne]
  · exact e
  · rintro rfl
    rw [h] at e
    have e' := HO.lst.inj (Option.some.inj e)
    rw [← e'] at q
    cases q with
    | cons _ q =>
      cases q with
      | cons q1 _ =>
        obtain ⟨_, z, _⟩ := q1
        cases z
theorem row_lst {ns : List Int} {v : V} (h : H r = some (.lst (rowV s i c d))) (p : LstOf ns v H) : LstOf ns v (upd H r (.lst R')) := by
  obtain ⟨t, rfl, e⟩ := p.get
  refine LstOf.mk ?_
  rw [upd_ne]
  · exact e
  · rintro rfl
    rw [h] at e
    have e' := HO.lst.inj (Option.some.inj e)
    cases ns with
    | nil => cases e'
    | cons n ns => cases e'
end

theorem cut_to {α : Type} {R : α → VP} {H : Hp} {as : List α} {vs : List V} (n : Nat) (h : All2 R H as vs) : All2 R H (as.take n) (cutV vs none (some (n : Int))) := by
  unfold cutV
  rw [HT.sIx_none, HT.sIx_nat, List.drop_zero, Nat.sub_zero]
  have take : ∀ (n : Nat) {as : List α} {vs : List V}, All2 R H as vs → All2 R H (as.take n) (vs.take n) := by
    intro n
    induction n with
    | zero => intro as vs _; exact .nil
    | succ n ih =>
      intro as vs h
      cases h with
      | nil => exact .nil
      | cons r t => exact .cons r (ih t)
  by_cases e : n ≤ vs.length
  · rw [Nat.min_eq_left e]
    exact take n h
  · rw [Nat.min_eq_right (by omega), List.take_length, List.take_of_length_le (by rw [← h.length]; omega)]
    exact h
theorem bdec_int (a b : Int) : decide (V.int a = V.int b) = decide (a = b) := by
  rw [Bool.eq_iff_iff]
  simp

/-! ### what is asked of the numbers -/
def tabA : List (List Int) := [[7, 3, 1], [7, 4, 2], [11, 5, 2], [13, 4, 1], [11, 6, 3], [15, 7, 3], [3, 2, 1], [9, 3, 1], [13, 5, 2], [10, 4, 1]]
def tabB : List (List Int) := [[21, 5, 1, 2, 2], [31, 6, 1, 5, 10], [13, 4, 1, 3, 4], [37, 9, 2, 7, 4], [23, 11, 5, 2, 2], [40, 13, 4, 3, 8]]
structure OkA (m k l : Int) : Prop where
  hm : 2 ≤ m ∧ m ≤ 20
  hk : 1 ≤ k ∧ k ≤ 20
  hl : 0 ≤ l ∧ l ≤ 20
  evn : (everyM m k l).length ≤ 1000 ∧ ∀ t ∈ everyM m k l, t.length ≤ 1000
  fac : 1 ≤ (factorsM m).length
  due : ∀ f ∈ factorsM m, ∃ res, FixOk m k l f res ∧ (dueM m f (everyM m k l)).length < 64 ∧ (dueM m f (everyM m k l)).all (okT k) = true ∧ sortT (dueM m f (everyM m k l)) = res ∧ res.length ≤ 1000 ∧ ∀ t ∈ res, t.length ≤ 1000
  mul : ∀ p ∈ primesM (k - l), l < p → m % p ≠ 0 → ∃ known, FixOk m k l p known ∧ ∀ t ∈ everyM m k l, ((rng 0 m).filter fun s => known.contains (movedM m t 1 s)) ≠ []
structure OkB (m k l f : Int) : Prop where
  hm : 2 ≤ m ∧ m ≤ 200
  hk : 1 ≤ k ∧ k ≤ 200
  hf : 0 ≤ f ∧ f ≤ 1000
  fnd : ∃ found, FixOk m k l f found ∧ found.length < 64 ∧ found.all (okT k) = true ∧ (found.filter fun t => (!decide ((t.length : Int) = k)) || (!decide (lcommonM (countsM m t) = some l))) = [] ∧ sortT found = found ∧ found ≠ [] ∧ (found.filter fun t => !decide (movedM m t f 0 = t)) = []
def OkRowA (t : List Int) : Prop := ∃ m k l, t = [m, k, l] ∧ OkA m k l
def OkRowB (t : List Int) : Prop := ∃ m k l f n, t = [m, k, l, f, n] ∧ OkB m k l f

section
variable {P : Program} {w : World} {K : PySem.W.Frag} {mg : Str → Option Value} {base : Heap} {k : Nat}
abbrev sLaw : Stmt := topS 29
abbrev nLaw : List Str := ["_law_script", "_law_row", "_law_some", "_law_modulus", "_law_size", "_law_often", "_law_told", "_law_every", "_law_factors", "_law_factor", "_law_due", "_law_order", "_law_prime_here", "_law_known", "_law_number", "_law_found", "_law_part", "_law_f", "_law_step"]
theorem scLaw : FnScope nLaw ["_law_script"] (defScope sLaw) := ⟨rfl, rfl, rfl, by decide +kernel, rfl, by decide +kernel, by decide +kernel⟩
def lcScope : Expr → Scope
  | .ListComp _ _ sc _ => sc
  | _ => { kind := .function, names := [], isGenerator := false, isCoroutine := false }
/-- the scope of the comprehension that the j-th statement of the law stores -/
def asgScope (j : Nat) : Scope := match (defBody sLaw).getD j (.Pass ⟨0, 0, 0, 0⟩) with
  | .Assign _ e _ => lcScope e
  | _ => lcScope (.Constant .none 0 ⟨0, 0, 0, 0⟩)
theorem hu65 {j : Nat} {A : Around} (hr : Room j A) : A.units + 65 < cLine := by
  have := hr.un
  omega
def spLaw (K : PySem.W.Frag) : Sp := fun vs H Q _ => ∃ (a : Addr) (ns : List Int), vs = [.ref a] ∧ SqL K H a (ns.map V.int) ∧ ns.length ≤ 63 ∧ ∀ H', Q (.bl true) H'
theorem fn_law (T : There K mg "law" sLaw ["_law_script"]) (m2 : mg "range" = none) (m4 : mg "sorted" = none) (m1 : mg "len" = none) (hA : ∀ t ∈ tabA, OkRowA t) (hB : ∀ t ∈ tabB, OkRowB t)
    (GP : Fn P w K mg base k "_law_pick" ["_law_row", "_law_things"] (spPick K)) (GS : Fn P w K mg base k "_law_sets" ["_law_many", "_law_size"] spSets) (GC : Fn P w K mg base k "_law_counts" ["_law_modulus", "_law_members"] spCounts)
    (GM : Fn P w K mg base k "_law_common" ["_law_counts_here"] spLCommon) (GV : Fn P w K mg base k "_law_moved" ["_law_modulus", "_law_members", "_law_factor", "_law_step"] spMoved) (GF : Fn P w K mg base k "fixed_sets" ["modulus", "size", "often", "factor"] spFixed)
    (GA : Fn P w K mg base k "_law_alike" ["_law_found", "_law_due"] (spAlike LotB)) (GR : Fn P w K mg base k "_law_prime" ["_law_number"] spPrime) :
    ∀ (f : Addr) (fd : FuncData), Fun K "law" "law" sLaw f fd → FnOk P w K mg base CX0 (k + 1) f fd ["_law_script"] (spLaw K) := by
  intro f fd F
  refine F.ok scLaw (fun vs H Q E h => ?_) (fun cdv A outer s H vs Q E hr h => ?_)
  · obtain ⟨a, ns, rfl, _⟩ := h
    rfl
  · obtain ⟨a, ns, rfl, hS, hlen, q⟩ := h
    refine ⟨_, pss_cons (ps_set (i := 1) scLaw.nd rfl (.inl rfl) (pe_lst (pa_cons (pv 0) (pa_cons pe_int (pa_cons pe_int (pa_cons pe_int pa_nil))))))
      (pss_cons (ps_set (i := 2) scLaw.nd rfl (.inl rfl) (pe_lst (pa_cons (pe_tup (pa_cons pe_int (pa_cons pe_int (pa_cons pe_int pa_nil)))) (pa_cons (pe_tup (pa_cons pe_int (pa_cons pe_int (pa_cons pe_int pa_nil)))) (pa_cons (pe_tup (pa_cons pe_int (pa_cons pe_int (pa_cons pe_int pa_nil))))
          (pa_cons (pe_tup (pa_cons pe_int (pa_cons pe_int (pa_cons pe_int pa_nil)))) (pa_cons (pe_tup (pa_cons pe_int (pa_cons pe_int (pa_cons pe_int pa_nil)))) (pa_cons (pe_tup (pa_cons pe_int (pa_cons pe_int (pa_cons pe_int pa_nil)))) (pa_cons (pe_tup (pa_cons pe_int (pa_cons pe_int (pa_cons pe_int pa_nil))))
          (pa_cons (pe_tup (pa_cons pe_int (pa_cons pe_int (pa_cons pe_int pa_nil)))) (pa_cons (pe_tup (pa_cons pe_int (pa_cons pe_int (pa_cons pe_int pa_nil)))) (pa_cons (pe_tup (pa_cons pe_int (pa_cons pe_int (pa_cons pe_int pa_nil)))) pa_nil))))))))))))
      (pss_cons (ps_asg (pe_fn GP hr (by rfl) (pa_cons (pv 1) (pa_cons (pe_slice sl_list (pv 2) po_none (po_some (pe_fn GP hr (by rfl) (pa_cons (pv 1) (pa_cons (pe_lst (pa_cons pe_int (pa_cons pe_int pa_nil))) pa_nil))))) pa_nil)))
          (pg_tup rfl (pgs_cons (pg_name (i := 3) scLaw.nd rfl (.inr rfl)) (pgs_cons (pg_name (i := 4) scLaw.nd rfl (.inr rfl)) (pgs_cons (pg_name (i := 5) scLaw.nd rfl (.inr rfl)) pgs_nil)))))
      (pss_cons (ps_setLc (i := 7) (own := [("_law_told", 6)]) (g := gName 6) rfl scLaw.nd rfl rfl (sw_true rfl rfl rfl (by decide +kernel)) (pi_list (pe_fn GS hr (by rfl) (pa_cons (pv 3) (pa_cons (pv 4) pa_nil)))) (blkOk_by (N := nLaw) (sc := defScope sLaw) (by decide +kernel)) (fun _ _ _ _ _ => pg_name (i := 6) scLaw.nd rfl (Or.inl rfl))
          (fun _ _ _ _ _ => pts_one (pt_cmpR op_eq (pe_fn GM hr (by rfl) (pa_cons (pe_fn GC hr (by rfl) (pa_cons (pv 3) (pa_cons (pv 6) pa_nil))) pa_nil)) (pv 5) (nomark _))) (fun _ _ _ _ _ => pv 6))
      (pss_cons (ps_setLc (i := 8) (own := [("_law_part", 16)]) (g := gName 16) rfl scLaw.nd rfl rfl (sw_true rfl rfl rfl (by decide +kernel)) (pi_range2 (by rfl) m2 (pa_cons pe_int (pa_cons (pv 3) pa_nil))) (blkOk_by (N := nLaw) (sc := defScope sLaw) (by decide +kernel)) (fun _ _ _ _ _ => pg_name (i := 16) scLaw.nd rfl (Or.inr rfl))
          (fun _ _ _ _ _ => pts_one (pt_cmpR (r := rEqD K) (op_eqD hr.units) (pe_lc (own := [("_law_f", 17)]) (g := gName 17) rfl scLaw.nd (pi_range2 (by rfl) m2 (pa_cons pe_int (pa_cons (pv 3) pa_nil))) (blkOk_by (N := nLaw) (sc := relS (asgScope 4) (defScope sLaw)) (by decide +kernel)) (fun _ _ _ _ _ => pg_name (i := 17) scLaw.nd rfl (Or.inl rfl))
              (fun _ _ _ _ _ => pts_one (PW.pt (pw_and (pt_cmpR op_eq (pe_op op_mod (pv 3) (pv 17)) pe_int (nomark _)) (pw_and1 (pt_cmpR op_eq (pe_op op_mod (pv 16) (pv 17)) pe_int (nomark _)))))) (fun _ _ _ _ _ => pv 17)) (pe_lst pa_nil) (nomark _))) (fun _ _ _ _ _ => pv 16))
      (pss_cons (ps_set (i := 9) scLaw.nd rfl (.inr rfl) (pe_fn GP hr (by rfl) (pa_cons (pv 1) (pa_cons (pv 8) pa_nil))))
      (pss_cons (ps_set (i := 10) scLaw.nd rfl (.inl rfl) (pe_callB cr_sortX (by rfl) m4 boot_sorted (pa_cons (pe_lc (own := [("_law_told", 6)]) (g := gName 6) rfl scLaw.nd (pi_list (pv 7)) (blkOk_by (N := nLaw) (sc := defScope sLaw) (by decide +kernel)) (fun _ _ _ _ _ => pg_name (i := 6) scLaw.nd rfl (Or.inl rfl))
          (fun _ _ _ _ _ => pts_one (pt_cmpR (r := rEqD K) (op_eqD hr.units) (pe_fn GV hr (by rfl) (pa_cons (pv 3) (pa_cons (pv 6) (pa_cons (pv 9) (pa_cons pe_int pa_nil))))) (pv 6) (nomark _))) (fun _ _ _ _ _ => pv 6)) pa_nil)))
      (pss_cons (ps_if (pt_not (pt_val (pe_fn GA hr (by rfl) (pa_cons (pe_fn GF hr (by rfl) (pa_cons (pv 3) (pa_cons (pv 4) (pa_cons (pv 5) (pa_cons (pv 9) pa_nil))))) (pa_cons (pv 10) pa_nil))))) pss_never pss_nil)
      (pss_cons (ps_set (i := 11) scLaw.nd rfl (.inr rfl) (pe_op op_sub (pv 4) (pv 5)))
      (pss_cons (ps_for PassesOwn.never rfl (pi_list (pe_lc (own := [("_law_part", 16)]) (g := gName 16) rfl scLaw.nd (pi_range2 (by rfl) m2 (pa_cons pe_int (pa_cons (pe_op op_add (pv 11) pe_int) pa_nil))) (blkOk_by (N := nLaw) (sc := defScope sLaw) (by decide +kernel)) (fun _ _ _ _ _ => pg_name (i := 16) scLaw.nd rfl (Or.inl rfl))
            (fun _ _ _ _ _ => pts_one (PW.pt (pw_and (pt_cmpR op_eq (pe_op op_mod (pv 11) (pv 16)) pe_int (nomark _)) (pw_and1 (pt_val (pe_fn GR hr (by rfl) (pa_cons (pv 16) pa_nil))))))) (fun _ _ _ _ _ => pv 16)))
          (pg_name (i := 12) scLaw.nd rfl (.inl rfl))
          (pss_one (ps_if (PW.pt (pw_and (pt_cmpR op_gt (pv 12) (pv 5) (nomark _)) (pw_and1 (pt_cmpR op_ne (pe_op op_mod (pv 3) (pv 12)) pe_int (nomark _)))))
            (pss_cons (ps_set (i := 13) scLaw.nd rfl (.inr rfl) (pe_fn GF hr (by rfl) (pa_cons (pv 3) (pa_cons (pv 4) (pa_cons (pv 5) (pa_cons (pv 12) pa_nil))))))
            (pss_one (ps_for PassesOwn.never rfl (pi_list (pv 7)) (pg_name (i := 6) scLaw.nd rfl (.inr rfl))
              (pss_one (ps_if (pt_cmpR (op_eqD hr.units) (pe_lc (own := [("_law_step", 18)]) (g := gName 18) rfl scLaw.nd (pi_range1 (by rfl) m2 (pa_cons (pv 3) pa_nil)) (blkOk_by (N := nLaw) (sc := defScope sLaw) (by decide +kernel)) (fun _ _ _ _ _ => pg_name (i := 18) scLaw.nd rfl (Or.inl rfl))
                  (fun _ _ _ _ _ => pts_one (pt_cmpR (r := rInD K) (op_inD (hu65 hr)) (pe_fn GV hr (by rfl) (pa_cons (pv 3) (pa_cons (pv 6) (pa_cons pe_int (pa_cons (pv 18) pa_nil))))) (pv 13) rfl)) (fun _ _ _ _ _ => pv 18)) (pe_lst pa_nil) (nomark _)) pss_never pss_nil))))) pss_nil)))
      (pss_cons (ps_set (i := 13) scLaw.nd rfl (.inr rfl) (pe_lst (pa_cons (pe_tup (pa_cons pe_int (pa_cons pe_int (pa_cons pe_int (pa_cons pe_int (pa_cons pe_int pa_nil)))))) (pa_cons (pe_tup (pa_cons pe_int (pa_cons pe_int (pa_cons pe_int (pa_cons pe_int (pa_cons pe_int pa_nil))))))
          (pa_cons (pe_tup (pa_cons pe_int (pa_cons pe_int (pa_cons pe_int (pa_cons pe_int (pa_cons pe_int pa_nil)))))) (pa_cons (pe_tup (pa_cons pe_int (pa_cons pe_int (pa_cons pe_int (pa_cons pe_int (pa_cons pe_int pa_nil)))))) (pa_cons (pe_tup (pa_cons pe_int (pa_cons pe_int (pa_cons pe_int (pa_cons pe_int (pa_cons pe_int pa_nil))))))
          (pa_cons (pe_tup (pa_cons pe_int (pa_cons pe_int (pa_cons pe_int (pa_cons pe_int (pa_cons pe_int pa_nil)))))) pa_nil))))))))
      (pss_cons (ps_asg (pe_fn GP hr (by rfl) (pa_cons (pv 1) (pa_cons (pv 13) pa_nil)))
          (pg_tup rfl (pgs_cons (pg_name (i := 3) scLaw.nd rfl (.inr rfl)) (pgs_cons (pg_name (i := 4) scLaw.nd rfl (.inr rfl)) (pgs_cons (pg_name (i := 5) scLaw.nd rfl (.inr rfl)) (pgs_cons (pg_name (i := 9) scLaw.nd rfl (.inr rfl)) (pgs_cons (pg_name (i := 14) scLaw.nd rfl (.inl rfl)) pgs_nil)))))))
      (pss_cons (ps_set (i := 15) scLaw.nd rfl (.inl rfl) (pe_fn GF hr (by rfl) (pa_cons (pv 3) (pa_cons (pv 4) (pa_cons (pv 5) (pa_cons (pv 9) pa_nil))))))
      (pss_cons (ps_if (pt_cmpR (op_neD hr.units) (pe_lc (own := [("_law_told", 6)]) (g := gName 6) rfl scLaw.nd (pi_list (pv 15)) (blkOk_by (N := nLaw) (sc := defScope sLaw) (by decide +kernel)) (fun _ _ _ _ _ => pg_name (i := 6) scLaw.nd rfl (Or.inl rfl))
          (fun _ _ _ _ _ => pts_one (PW.pt (pw_or (pt_cmpR op_ne (pe_callB (r := rLenK K) call_lenK (by rfl) m1 boot_len (pa_cons (pv 6) pa_nil)) (pv 4) (nomark _))
            (pw_or1 (pt_cmpR op_ne (pe_fn GM hr (by rfl) (pa_cons (pe_fn GC hr (by rfl) (pa_cons (pv 3) (pa_cons (pv 6) pa_nil))) pa_nil)) (pv 5) (nomark _)))))) (fun _ _ _ _ _ => pv 6)) (pe_lst pa_nil) (nomark _)) pss_never pss_nil)
      (pss_one (ps_ret (pe_and (pe_cmpR (op_eqD hr.units) (pv 15) (pe_callB cr_sortX (by rfl) m4 boot_sorted (pa_cons (pv 15) pa_nil)) (nomark _))
        (pe_and (pe_cmpR (op_neD hr.units) (pv 15) (pe_lst pa_nil) (nomark _))
          (pe_one (pe_cmpR (op_eqD hr.units) (pe_lc (own := [("_law_told", 6)]) (g := gName 6) rfl scLaw.nd (pi_list (pv 15)) (blkOk_by (N := nLaw) (sc := defScope sLaw) (by decide +kernel)) (fun _ _ _ _ _ => pg_name (i := 6) scLaw.nd rfl (Or.inl rfl))
            (fun _ _ _ _ _ => pts_one (pt_cmpR (r := rNeD K) (op_neD hr.units) (pe_fn GV hr (by rfl) (pa_cons (pv 3) (pa_cons (pv 6) (pa_cons (pv 9) (pa_cons pe_int pa_nil))))) (pv 6) (nomark _))) (fun _ _ _ _ _ => pv 6)) (pe_lst pa_nil) (nomark _)))))))))))))))))))), ?_⟩
    -- the row, the first table
    refine q_asg (ev_newL [.ref a, .int 0, .int 3544, .int 0] (fun H1 _ Q q => ⟨_, rfl, q _ H1 (Same.refl _) rfl⟩) (by simp)) fun v H1 s1 hv => ?_
    obtain ⟨r, rfl, nr, hr1⟩ := hv
    refine q_asg (P := LotOf tabA) (ev_lsts (ea_allC ev_tup3 (ea_allC ev_tup3 (ea_allC ev_tup3 (ea_allC ev_tup3 (ea_allC ev_tup3 (ea_allC ev_tup3 (ea_allC ev_tup3 (ea_allC ev_tup3 (ea_allC ev_tup3 (ea_allC ev_tup3 ea_all0)))))))))) (by decide)) fun v2 H2 s2 hv2 => ?_
    obtain ⟨t2, vs2, rfl, ht2, r2⟩ := hv2
    have scr : ∀ H', Same H H' → ∀ R, SqL K (upd H' r (.lst R)) a (ns.map V.int) := fun H' s R => (same_mut s nr).seq hS
    have hr2 := s2 _ _ hr1
    have s02 := s1.trans s2
    -- modulus, size, often = pick(row, some[:pick(row, [4, 10])])
    refine ⟨_, rfl, _, rfl, _, rfl, le_line (by simp), fun p np => ?_⟩
    have hr3 : (upd H2 p (.lst [.int 4, .int 10])) r = some (.lst (rowV a 0 3544 0)) := by
      rw [upd_ne (ne_of_none hr2 np)]
      exact hr2
    have s03 : Same H (upd H2 p (.lst [.int 4, .int 10])) := s02.trans (same_new np)
    refine ⟨r, a, ns, 0, 3544, 0, p, [.int 4, .int 10], rfl, ⟨by simp, by simp⟩, hr3, Int.le_refl _, scr _ s03, upd_same, (ne_of_none hr2 np).symm, fun j v i' c' d' hj hi' => ?_⟩
    have hv : ∃ n : Nat, v = .int n ∧ (n = 4 ∨ n = 10) := by
      match j, hj with
      | 0, hj => exact ⟨4, (Option.some.inj hj).symm, .inl rfl⟩
      | 1, hj => exact ⟨10, (Option.some.inj hj).symm, .inr rfl⟩
      | j + 2, hj => exact absurd hj (by simp)
    obtain ⟨n0, rfl, hn0⟩ := hv
    have hr4 : (upd (upd H2 p (.lst [.int 4, .int 10])) r (.lst (rowV a i' c' d'))) r = some (.lst (rowV a i' c' d')) := upd_same
    obtain ⟨_, vs4, e1, ht4, r4⟩ := row_lot (R' := rowV a i' c' d') (ts := tabA) hr3 ⟨t2, vs2, rfl, same_new np _ _ ht2, r2.up (same_new np)⟩
    cases e1
    have s04 : Same H (upd (upd H2 p (.lst [.int 4, .int 10])) r (.lst (rowV a i' c' d'))) := same_mut s03 nr
    generalize upd (upd H2 p (.lst [.int 4, .int 10])) r (.lst (rowV a i' c' d')) = H4 at *
    clear ht2 r2 hr1 hr2 hr3 s03 s02 s1 s2 np
    refine ⟨(n0 : Int), rfl, t2, vs4, rfl, SqL.of ht4, fun p' np' => ?_⟩
    have r5 := cut_to n0 (r4.up (same_new (o := .lst (cutV vs4 none (some (n0 : Int)))) np'))
    have hr5 : (upd H4 p' (.lst (cutV vs4 none (some (n0 : Int))))) r = some (.lst (rowV a i' c' d')) := same_new np' _ _ hr4
    have s05 := s04.trans (same_new (o := .lst (cutV vs4 none (some (n0 : Int)))) np')
    have l5 : (cutV vs4 none (some (n0 : Int))).length = n0 := by
      rw [r5.length, List.length_take]
      show min n0 10 = n0
      omega
    refine ⟨r, a, ns, i', c', d', p', _, rfl, ⟨by omega, by omega⟩, hr5, hi', scr _ s05, upd_same, (ne_of_none hr4 np').symm, fun j v i1 c1 d1 hj hi1 => ?_⟩
    obtain ⟨row, hrow, rv⟩ := r5.get hj
    have hmem : row ∈ tabA := List.mem_of_mem_take (List.mem_of_getElem? hrow)
    obtain ⟨m, z, l, rfl, ok⟩ := hA row hmem
    have hr6 : (upd (upd H4 p' (.lst (cutV vs4 none (some (n0 : Int))))) r (.lst (rowV a i1 c1 d1))) r = some (.lst (rowV a i1 c1 d1)) := upd_same
    obtain ⟨tt, rfl, htt⟩ := row_tup (R' := rowV a i1 c1 d1) hr5 rv
    have s06 : Same H (upd (upd H4 p' (.lst (cutV vs4 none (some (n0 : Int))))) r (.lst (rowV a i1 c1 d1))) := same_mut s05 nr
    generalize upd (upd H4 p' (.lst (cutV vs4 none (some (n0 : Int))))) r (.lst (rowV a i1 c1 d1)) = H6 at *
    clear hrow rv hmem r5 hr5 s05 l5 hj ht4 r4 hr4 s04 np'
    refine ⟨tt, _, rfl, SqT.of htt, rfl, _, _, rfl, _, _, rfl, _, _, rfl, rfl, ?_⟩
    have hm := ok.hm
    have hk := ok.hk
    have hl := ok.hl
    -- every
    have few : (setsM m z).length ≤ 1048576 := by
      unfold setsM
      refine Nat.le_trans (List.length_filter_le _ _) ?_
      have := sets_few (k := z) hm.2 (rng 0 m).length
      rw [List.take_length] at this
      exact this
    refine q_asg (P := LotOf (everyM m z l)) ((ev_lcL (RA := TupOf) (RB := TupOf) (setsM m z) (fun t => decide (lcommonM (countsM m t) = some l)) (fun t => t) (ev_sets ⟨by omega, hm.2⟩ (by omega) (ev_var rfl) (ev_var rfl)) (by omega) (fun _ => rfl)
      (fun t _ x H4 s4 ht => ?_) (fun t _ _ x H4 s4 ht => ev_varP rfl ht)).imp fun v H4 _ h => ?_) fun v7 H7 s7 h7 => ?_
    · exact (et_test (ev_eq (ev_lcommon (cs := countsM m t) (by rw [counts_size]; omega) (ev_counts ⟨by omega, by omega⟩ (ev_var rfl) (ev_varP rfl ht))) (ev_var rfl) (optV_scal _ _))).is (optV_eq _ _)
    · rw [List.map_id'] at h
      exact h
    have hr7 := s7 _ _ hr6
    have s07 := s06.trans s7
    -- factors
    refine q_asg (P := LstOf (factorsM m)) ((ev_lcR2 (RB := IntI) 2 m (fun p => ((rng 2 m).filter fun f => decide (m % f = 0) && decide (p % f = 0)).isEmpty) (fun p => p) (ea_cons ev_c (ea_cons (ev_var rfl) ea_nil)) ⟨by omega, by omega, by omega, by omega, by omega⟩ (fun _ => rfl)
      (fun p hp H4 s4 => (et_test ((ev_eqII (b := []) ((ev_lcR2 (RB := IntI) 2 m (fun f => decide (m % f = 0) && decide (p % f = 0)) (fun f => f) (ea_cons ev_c (ea_cons (ev_var rfl) ea_nil)) ⟨by omega, by omega, by omega, by omega, by omega⟩ (fun _ => rfl) (fun f hf H5 s5 => ?_) (fun f _ _ H5 s5 => ev_var rfl)).imp fun v H5 _ h => ?_) ev_nil).is (by rw [nil_dec])))) (fun p _ _ H4 s4 => ev_var rfl)).imp fun v H4 _ h => ?_) fun v8 H8 s8 h8 => ?_
    · have hb := rng_mem hf
      refine et_and ((et_test (ev_eq (ev_opC (by omega) (ev_var rfl) (ev_var rfl)) ev_c rfl)).is (bdec_int _ _)) fun _ => (et_test (ev_eq (ev_opC (by omega) (ev_var rfl) (ev_var rfl)) ev_c rfl)).is (bdec_int _ _)
    · rw [List.map_id'] at h
      exact h
    · rw [List.map_id'] at h
      exact h
    have hr8 := s8 _ _ hr7
    have s08 := s07.trans s8
    have h78 := Mono.up s8 h7
    obtain ⟨t8, rfl, ht8⟩ := h8.get
    -- factor = pick(row, factors)
    have ne8 : t8 ≠ r := by
      rintro rfl
      rw [hr8] at ht8
      have e := HO.lst.inj (Option.some.inj ht8)
      cases hc : factorsM m with
      | nil => rw [hc] at e; cases e
      | cons x y => rw [hc] at e; cases e
    have fl : (factorsM m).length ≤ 1000 := by
      unfold factorsM
      refine Nat.le_trans (List.length_filter_le _ _) ?_
      rw [rng_len]
      omega
    refine ⟨_, rfl, _, rfl, r, a, ns, i1, c1, d1, t8, _, rfl, ⟨by rw [List.length_map]; exact ok.fac, by rw [List.length_map]; exact fl⟩, hr8, hi1, scr _ s08, ht8, ne8, fun j v i2 c2 d2 hj hi2 => ?_⟩
    obtain ⟨fc, hfc, rfl⟩ := int_get hj
    have hfm : fc ∈ factorsM m := List.mem_of_getElem? hfc
    obtain ⟨_, hF, d64, dok, rfl, rl, rt⟩ := ok.due fc hfm
    have hr9 : (upd H8 r (.lst (rowV a i2 c2 d2))) r = some (.lst (rowV a i2 c2 d2)) := upd_same
    have h79 := row_lot (R' := rowV a i2 c2 d2) hr8 h78
    have s09 : Same H (upd H8 r (.lst (rowV a i2 c2 d2))) := same_mut s08 nr
    generalize upd H8 r (.lst (rowV a i2 c2 d2)) = H9 at *
    clear hfc hj ne8 fl ht8 h78 hr8 s08 h8 s8 hr7 s07 h7 s7 few hr6 s06 htt
    -- due
    have ez : ((z.toNat : Nat) : Int) = z := Int.toNat_of_nonneg (by omega)
    have evn := ok.evn
    refine q_asg (ev_sortX (d := z.toNat) (by omega) ((ev_lcL (RA := TupOf) (RB := TupOf) (everyM m z l) (fun t => decide (movedM m t fc 0 = t)) (fun t => t) (ev_varP rfl h79) (by omega) (fun _ => rfl)
        (fun t ht x H4 s4 hx => ?_) (fun t _ _ x H4 s4 ht => ev_varP rfl ht)).imp fun v H4 _ h => ?_) d64 (by rw [ez]; exact dok)) fun v10 H10 s10 h10 => ?_
    · exact et_test (ev_eqTT (ev_moved (by omega) ⟨hF.hf.1, by have := hF.hf.2; omega⟩ (evn.2 t ht) (ev_var rfl) (ev_varP rfl hx) (ev_var rfl) ev_c) (ev_varP rfl hx))
    · rw [List.map_id'] at h
      exact h
    have h7a := Mono.up s10 h79
    -- if not alike(fixed_sets(..), due)
    refine q_pass ((et_not (et_B (ev_alike (R := LotB) (sortT (dueM m fc (everyM m z l))) ((ev_fixed hF (ev_var rfl) (ev_var rfl) (ev_var rfl) (ev_var rfl)).imp fun _ _ _ h => ⟨h, rl, rt⟩) (ev_varP rfl ⟨h10, rl, rt⟩)))).is rfl) fun H11 s11 => ?_
    have h7b := Mono.up s11 h7a
    -- order
    refine q_asg (ev_opI (ev_var rfl) (ev_var rfl)) fun v11 H12 s12 h12 => ?_
    cases h12
    have h7c := Mono.up s12 h7b
    have hr12 := s12 _ _ (s11 _ _ (s10 _ _ hr9))
    have s012 := ((s09.trans s10).trans s11).trans s12
    clear s09 hr9 h79 h7a h7b h10 s10 s11 s12 rl rt d64 dok
    -- for prime in ..
    refine q_forL (R := IntI) (primesM (z - l)) ((ev_lcR2 (RB := IntI) 2 (z - l + 1) (fun p => decide ((z - l) % p = 0) && primeM p) (fun p => p) (ea_cons ev_c (ea_cons (ev_opI (ev_var rfl) ev_c) ea_nil)) ⟨by omega, by omega, by omega, by omega, by omega⟩ (fun _ => rfl)
      (fun p hp H4 s4 => ?_) (fun p _ _ H4 s4 => ev_var rfl)).imp fun v H4 _ h => ?_)
      (fun _ σ' => ∃ y6 y12 y13, σ' = [some (.ref a), some (.ref r), some (.ref t2), some (.int m), some (.int z), some (.int l), y6, some v7, some (.ref t8), some (.int fc), some v10, some (.int (z - l)), y12, y13, none, none, none, none, none])
      ⟨none, none, none, rfl⟩ (fun i p x σ' H' hp s' hx ⟨y6, y12, y13, e⟩ N hN => ?_) (fun σ' H13 s13 ⟨y6, y12, y13, e⟩ => ?_)
    · have hb := rng_mem hp
      exact et_and ((et_test (ev_eq (ev_opC (by omega) (ev_var rfl) (ev_var rfl)) ev_c rfl)).is (bdec_int _ _)) fun _ => et_B (ev_prime ⟨by omega, by omega⟩ (ev_var rfl))
    · rw [List.map_id'] at h
      exact h
    · cases hx
      subst e
      have hpm : p ∈ primesM (z - l) := List.mem_of_getElem? hp
      have hb : 2 ≤ p := (rng_mem (List.mem_filter.mp hpm).1).1
      refine g_if ?_
      refine s_if (b := decide (l < p) && !decide (m % p = 0)) (et_and (et_test (ev_opI (ev_var rfl) (ev_var rfl))) fun _ => (et_test (ev_ne (ev_opC (by omega) (ev_var rfl) (ev_var rfl)) ev_c rfl)).is (by rw [bdec_int])) (fun e H3 s3 => ?_) (fun e H3 s3 => hN _ H3 s3 ⟨_, _, _, rfl⟩)
      rw [Bool.and_eq_true, decide_eq_true_eq, Bool.not_eq_true', decide_eq_false_iff_not] at e
      obtain ⟨known, hK, hT⟩ := ok.mul p hpm e.1 e.2
      refine q_asg (ev_fixed hK (ev_var rfl) (ev_var rfl) (ev_var rfl) (ev_var rfl)) fun v13 H4 s4 h13 => ?_
      have h74 := Mono.up (s'.trans (s3.trans s4)) h7c
      refine s_forL (R := TupOf) (everyM m z l) (ev_varP rfl h74)
        (fun _ σ' => ∃ y6, σ' = [some (.ref a), some (.ref r), some (.ref t2), some (.int m), some (.int z), some (.int l), y6, some v7, some (.ref t8), some (.int fc), some v10, some (.int (z - l)), some (.int p), some v13, none, none, none, none, none])
        ⟨_, rfl⟩ (fun i t x σ' H5 ht s5 hx ⟨y6, e⟩ N2 hN2 => ?_) (fun σ' H5 s5 ⟨y6, e⟩ => hN σ' H5 ((s3.trans s4).trans s5) ⟨_, _, _, e⟩)
      subst e
      have htm : t ∈ everyM m z l := List.mem_of_getElem? ht
      refine g_if ?_
      refine s_if (b := false) ((et_test (ev_eqII (a := (rng 0 m).filter fun s => known.contains (movedM m t 1 s)) (b := []) ((ev_lcR1 (RB := IntI) m (fun s => known.contains (movedM m t 1 s)) (fun s => s) (ea_cons (ev_var rfl) ea_nil) (by omega) (by omega) (fun _ => rfl)
        (fun s hs H6 s6 => ?_) (fun s _ _ H6 s6 => ev_var rfl)).imp fun v H6 _ h => ?_) ev_nil)).is (decide_eq_false (hT t htm))) (fun e => nomatch e) (fun _ H6 s6 => hN2 _ H6 s6 ⟨_, rfl⟩)
      · exact et_test (ev_inTL (ev_moved (by omega) ⟨by omega, by omega⟩ (evn.2 t htm) (ev_var rfl) (ev_varP rfl (Mono.up s6 hx)) ev_c (ev_var rfl)) (ev_varP rfl (Mono.up (s5.trans s6) h13)))
      · rw [List.map_id'] at h
        exact h
    · subst e
      have hr13 := s13 _ _ hr12
      have s013 := s012.trans s13
      clear s13 hr12 s012 h7c ok evn hF
      -- the second table
      refine q_asg (P := LotOf tabB) (ev_lsts (ea_allC ev_tup5 (ea_allC ev_tup5 (ea_allC ev_tup5 (ea_allC ev_tup5 (ea_allC ev_tup5 (ea_allC ev_tup5 ea_all0)))))) (by decide)) fun v14 H14 s14 h14 => ?_
      have hr14 := s14 _ _ hr13
      have s014 := s013.trans s14
      obtain ⟨t14, vs14, rfl, ht14, r14⟩ := h14
      have ne14 : t14 ≠ r := by
        rintro rfl
        rw [hr14] at ht14
        have e := r14.length
        rw [← HO.lst.inj (Option.some.inj ht14)] at e
        exact absurd e (show ¬ (4 : Nat) = 6 by decide)
      have l14 : vs14.length = 6 := r14.length
      refine ⟨_, rfl, _, rfl, r, a, ns, i2, c2, d2, t14, vs14, rfl, ⟨by omega, by omega⟩, hr14, hi2, scr _ s014, ht14, ne14, fun j v i3 c3 d3 hj hi3 => ?_⟩
      obtain ⟨row, hrow, rv⟩ := r14.get hj
      have hmem : row ∈ tabB := List.mem_of_getElem? hrow
      obtain ⟨m, z, l, fc, n, rfl, ok⟩ := hB row hmem
      obtain ⟨tt, rfl, htt⟩ := row_tup (R' := rowV a i3 c3 d3) hr14 rv
      generalize upd H14 r (.lst (rowV a i3 c3 d3)) = H15 at *
      refine ⟨tt, _, rfl, SqT.of htt, rfl, _, _, rfl, _, _, rfl, _, _, rfl, _, _, rfl, _, _, rfl, rfl, ?_⟩
      have hm := ok.hm
      have hk := ok.hk
      have hf := ok.hf
      obtain ⟨found, hF, h64, hok, hbad, hsort, hne, hmv⟩ := ok.fnd
      have ez : ((z.toNat : Nat) : Int) = z := Int.toNat_of_nonneg (by omega)
      have hz : ∀ t ∈ found, t.length ≤ 1000 := fun t ht => by
        have := (okT_iff (List.all_eq_true.mp hok t ht)).1
        omega
      refine q_asg (ev_fixed hF (ev_var rfl) (ev_var rfl) (ev_var rfl) (ev_var rfl)) fun v16 H16 s16 h16 => ?_
      refine q_pass ((et_test (ev_neLL (a := found.filter fun t => (!decide ((t.length : Int) = z)) || (!decide (lcommonM (countsM m t) = some l))) (b := []) ((ev_lcL (RA := TupOf) (RB := TupOf) found (fun t => (!decide ((t.length : Int) = z)) || (!decide (lcommonM (countsM m t) = some l))) (fun t => t) (ev_varP rfl h16) (by omega) (fun _ => rfl)
        (fun t _ x H4 s4 ht => ?_) (fun t _ _ x H4 s4 ht => ev_varP rfl ht)).imp fun v H4 _ h => ?_) ev_nil)).is (by rw [hbad]; rfl)) fun H17 s17 => ?_
      · exact et_or ((et_test (ev_ne (ev_lenT (ns := t) (ev_varP rfl ht)) (ev_var rfl) rfl)).is (by rw [bdec_int])) fun _ => (et_test (ev_ne (ev_lcommon (cs := countsM m t) (by rw [counts_size]; omega) (ev_counts ⟨by omega, by omega⟩ (ev_var rfl) (ev_varP rfl ht))) (ev_var rfl) (optV_scal _ _))).is (by rw [optV_eq])
      · rw [List.map_id'] at h
        exact h
      have h17 := Mono.up s17 h16
      refine s_ret (P := Is (.bl true)) ?_ fun v H18 _ hv => by
        cases hv
        exact q H18
      refine (ev_andB (b := true) ((ev_eqLL (ev_varP rfl h17) (ev_sortX (d := z.toNat) (by omega) (ev_varP rfl h17) h64 (by rw [ez]; exact hok))).is (by rw [decide_eq_true hsort.symm])) fun _ =>
        (ev_andB (b := true) ((ev_neLL (b := []) (ev_varP rfl h17) ev_nil).is (by rw [decide_eq_false hne] <;> rfl)) fun _ =>
          (ev_eqLL (a := found.filter fun t => !decide (movedM m t fc 0 = t)) (b := []) ((ev_lcL (RA := TupOf) (RB := TupOf) found (fun t => !decide (movedM m t fc 0 = t)) (fun t => t) (ev_varP rfl h17) (by omega) (fun _ => rfl)
            (fun t ht x H4 s4 hx => ?_) (fun t _ _ x H4 s4 ht => ev_varP rfl ht)).imp fun v H4 _ h => ?_) ev_nil).is (by rw [decide_eq_true hmv])).is rfl).is rfl
      · exact et_test (ev_neTT (ev_moved (by omega) hf (hz t ht) (ev_var rfl) (ev_varP rfl hx) (ev_var rfl) ev_c) (ev_varP rfl hx))
      · rw [List.map_id'] at h
        exact h
end
end Fs

/-! The plain law: a quick look that every difference set passes (the product of two numbers), and the reckoning. -/
namespace Fs
open PySem PySem.Spec PyProof.Rows L2

/-! ### counts as the digits of a number -/
def pw (j : Nat) : Int := ((2 ^ (8 * j) : Nat) : Int)
theorem pw_add (i j : Nat) : pw (i + j) = pw i * pw j := by
  unfold pw
  rw [Nat.mul_add, Nat.pow_add, Int.natCast_mul]
theorem pw_succ (j : Nat) : pw (j + 1) = 256 * pw j := by
  rw [Nat.add_comm, pw_add]
  rfl
def enc : List Int → Int
  | [] => 0
  | x :: r => x + 256 * enc r
def encA : List Int → Int
  | [] => 0
  | a :: r => pw a.toNat + encA r
def encB (n : Nat) : List Int → Int
  | [] => 0
  | b :: r => pw (n - b.toNat) + encB n r
theorem enc_set : ∀ (xs : List Int) (j : Nat), j < xs.length → enc (xs.set j (xs.getD j 0 + 1)) = enc xs + pw j
  | [], j, h => absurd h (by simp)
  | x :: r, 0, _ => by
    show (x + 1) + 256 * enc r = x + 256 * enc r + 1
    omega
  | x :: r, j + 1, h => by
    have ih := enc_set r j (by simpa using h)
    show x + 256 * enc (r.set j (r.getD j 0 + 1)) = x + 256 * enc r + pw (j + 1)
    rw [ih, pw_succ]
    omega
theorem sum_bump : ∀ (xs : List Int) (j : Nat), j < xs.length → (xs.set j (xs.getD j 0 + 1)).sum = xs.sum + 1
  | [], j, h => absurd h (by simp)
  | x :: r, 0, _ => by
    show ((x + 1) :: r).sum = (x :: r).sum + 1
    rw [List.sum_cons, List.sum_cons]
    omega
  | x :: r, j + 1, h => by
    have ih := sum_bump r j (by simpa using h)
    show (x :: r.set j (r.getD j 0 + 1)).sum = (x :: r).sum + 1
    rw [List.sum_cons, List.sum_cons, ih]
    omega
section
variable {m : Int} {n : Nat}
theorem idx_of {a b : Int} (hm : m = (n : Int)) (ha : 0 ≤ a ∧ a < m) (hb : 0 ≤ b ∧ b < m) : ((a - b) % m).toNat < n ∧ ∃ c, pw a.toNat * pw (n - b.toNat) = pw ((a - b) % m).toNat + (pw n - 1) * c := by
  have h1 : 0 ≤ (a - b) % m := Int.emod_nonneg _ (by omega)
  have h2 : (a - b) % m < m := Int.emod_lt_of_pos _ (by omega)
  refine ⟨by omega, ?_⟩
  rw [← pw_add]
  by_cases h : b ≤ a
  · have e : (a - b) % m = a - b := Int.emod_eq_of_lt (by omega) (by omega)
    rw [e]
    refine ⟨pw (a - b).toNat, ?_⟩
    rw [show a.toNat + (n - b.toNat) = n + (a - b).toNat by omega, pw_add, Int.sub_mul, Int.one_mul]
    generalize pw n * pw (a - b).toNat = X
    omega
  · have e : (a - b) % m = a - b + m := by
      rw [← Int.add_emod_right]
      exact Int.emod_eq_of_lt (by omega) (by omega)
    rw [e]
    refine ⟨0, ?_⟩
    rw [show a.toNat + (n - b.toNat) = (a - b + m).toNat by omega, Int.mul_zero, Int.add_zero]
theorem inner_enc (hm : m = (n : Int)) {a : Int} (ha : 0 ≤ a ∧ a < m) : ∀ (t acc : List Int), (∀ b ∈ t, 0 ≤ b ∧ b < m) → acc.length = n →
    (∃ c, enc acc + pw a.toNat * encB n t = enc (t.foldl (bump m a) acc) + (pw n - 1) * c) ∧ (t.foldl (bump m a) acc).sum = acc.sum + t.length
  | [], acc, _, _ => ⟨⟨0, by show enc acc + pw a.toNat * 0 = enc acc + (pw n - 1) * 0; rw [Int.mul_zero, Int.mul_zero]⟩, by show acc.sum = acc.sum + 0; omega⟩
  | b :: t, acc, ht, hl => by
    obtain ⟨i1, c1, e1⟩ := idx_of hm ha (ht b List.mem_cons_self)
    have i2 : ((a - b) % m).toNat < acc.length := by omega
    obtain ⟨⟨c2, e2⟩, s2⟩ := inner_enc hm ha t (bump m a acc b) (fun x hx => ht x (List.mem_cons_of_mem _ hx)) (by rw [bump_len]; exact hl)
    rw [List.foldl_cons]
    constructor
    · refine ⟨c1 + c2, ?_⟩
      have e3 : enc (bump m a acc b) = enc acc + pw ((a - b) % m).toNat := enc_set acc _ i2
      show enc acc + pw a.toNat * (pw (n - b.toNat) + encB n t) = _
      rw [Int.mul_add, e1, Int.mul_add]
      rw [e3] at e2
      generalize (pw n - 1) * c1 = X at *
      generalize (pw n - 1) * c2 = Y at *
      generalize pw a.toNat * encB n t = Z at *
      omega
    · rw [s2, show (bump m a acc b).sum = acc.sum + 1 from sum_bump acc _ i2, List.length_cons]
      omega
theorem outer_enc (hm : m = (n : Int)) (u : List Int) (hu : ∀ b ∈ u, 0 ≤ b ∧ b < m) : ∀ (t acc : List Int), (∀ b ∈ t, 0 ≤ b ∧ b < m) → acc.length = n →
    (∃ c, enc acc + encA t * encB n u = enc (t.foldl (fun acc a => u.foldl (bump m a) acc) acc) + (pw n - 1) * c) ∧ (t.foldl (fun acc a => u.foldl (bump m a) acc) acc).sum = acc.sum + t.length * u.length
  | [], acc, _, _ => ⟨⟨0, by show enc acc + 0 * encB n u = enc acc + (pw n - 1) * 0; rw [Int.zero_mul, Int.mul_zero]⟩, by show acc.sum = acc.sum + 0 * (u.length : Int); rw [Int.zero_mul, Int.add_zero]⟩
  | a :: t, acc, ht, hl => by
    obtain ⟨⟨c1, e1⟩, s1⟩ := inner_enc hm (ht a List.mem_cons_self) u acc hu hl
    obtain ⟨⟨c2, e2⟩, s2⟩ := outer_enc hm u hu t (u.foldl (bump m a) acc) (fun x hx => ht x (List.mem_cons_of_mem _ hx)) (by rw [bumps_len]; exact hl)
    rw [List.foldl_cons]
    constructor
    · refine ⟨c1 + c2, ?_⟩
      show enc acc + (pw a.toNat + encA t) * encB n u = _
      rw [Int.add_mul, Int.mul_add]
      generalize (pw n - 1) * c1 = X at *
      generalize (pw n - 1) * c2 = Y at *
      generalize pw a.toNat * encB n u = Z at *
      generalize encA t * encB n u = Z2 at *
      omega
    · rw [s2, s1, List.length_cons, Int.natCast_add, Int.add_mul]
      show acc.sum + (u.length : Int) + (t.length : Int) * (u.length : Int) = acc.sum + ((t.length : Int) * (u.length : Int) + 1 * (u.length : Int))
      omega
end
theorem enc_rep0 : ∀ n : Nat, enc (List.replicate n 0) = 0
  | 0 => rfl
  | n + 1 => by
    show 0 + 256 * enc (List.replicate n 0) = 0
    rw [enc_rep0 n]
    rfl
theorem sum_rep0 : ∀ n : Nat, (List.replicate n (0 : Int)).sum = 0
  | 0 => rfl
  | n + 1 => by
    rw [List.replicate_succ, List.sum_cons, sum_rep0 n]
    rfl
def ones : Nat → Int
  | 0 => 0
  | n + 1 => 1 + 256 * ones n
theorem enc_all {l : Int} : ∀ (r : List Int), (∀ x ∈ r, x = l) → enc r = l * ones r.length ∧ r.sum = l * r.length
  | [], _ => ⟨by show (0 : Int) = l * 0; rw [Int.mul_zero], by show (0 : Int) = l * 0; rw [Int.mul_zero]⟩
  | x :: r, h => by
    obtain ⟨h1, h2⟩ := enc_all r fun y hy => h y (List.mem_cons_of_mem _ hy)
    have e : x = l := h x List.mem_cons_self
    subst e
    constructor
    · show x + 256 * enc r = x * (1 + 256 * ones r.length)
      rw [h1, Int.mul_add, Int.mul_one, Int.mul_left_comm]
    · rw [List.sum_cons, h2, List.length_cons, Int.natCast_add, Int.mul_add]
      show x + x * (r.length : Int) = x * (r.length : Int) + x * 1
      omega
/-- what a set passes whose differences all come l times -/
def core (m l : Int) (t : List Int) : Bool :=
  decide ((encA t * encB m.toNat t) % (pw m.toNat - 1) = ((t.length : Int) * (t.length : Int) - l * (m - 1) + 256 * (l * ones (m.toNat - 1))) % (pw m.toNat - 1))
def quick (m l : Int) (t : List Int) : Bool := (!t.all fun x => decide (0 ≤ x) && decide (x < m)) || core m l t
theorem quick_of {m l : Int} {t : List Int} (hm : 1 ≤ m) (h : ∀ x ∈ (countsM m t).drop 1, x = l) : quick m l t = true := by
  unfold quick
  cases hr : t.all fun x => decide (0 ≤ x) && decide (x < m) with
  | false => rfl
  | true =>
    show core m l t = true
    have ht : ∀ b ∈ t, 0 ≤ b ∧ b < m := fun b hb => by
      have q := List.all_eq_true.mp hr b hb
      rw [Bool.and_eq_true, decide_eq_true_eq, decide_eq_true_eq] at q
      exact q
    have em : m = (m.toNat : Int) := (Int.toNat_of_nonneg (by omega)).symm
    obtain ⟨⟨c, e⟩, s⟩ := outer_enc em t ht t (List.replicate m.toNat 0) ht (List.length_replicate ..)
    have hl : (countsM m t).length = m.toNat := counts_size m t
    unfold core
    rw [decide_eq_true_eq]
    rw [enc_rep0, Int.zero_add] at e
    rw [sum_rep0, Int.zero_add] at s
    have e' : encA t * encB m.toNat t = enc (countsM m t) + (pw m.toNat - 1) * c := e
    have s' : (countsM m t).sum = (t.length : Int) * (t.length : Int) := s
    cases hc : countsM m t with
    | nil =>
      rw [hc] at hl
      simp at hl
      omega
    | cons x r =>
      rw [hc] at h hl e' s'
      have lr : r.length = m.toNat - 1 := by
        rw [List.length_cons] at hl
        omega
      obtain ⟨h1, h2⟩ := enc_all r h
      rw [List.sum_cons, h2] at s'
      rw [e', Int.add_mul_emod_self_left]
      congr 1
      show x + 256 * enc r = _
      rw [h1, lr, ← s', lr]
      rw [show ((m.toNat - 1 : Nat) : Int) = m - 1 by omega]
      generalize l * (m - 1) = X
      omega
theorem common_tail {cs : List Int} {l : Int} (h : commonM cs = some l) : ∀ x ∈ cs.drop 1, x = l := by
  unfold commonM at h
  cases hc : cs.drop 1 with
  | nil => intro x hx; cases hx
  | cons c r =>
    rw [hc] at h
    dsimp only at h
    split at h
    · rename_i e
      cases h
      intro x hx
      exact of_decide_eq_true (List.all_eq_true.mp e x hx)
    · cases h
theorem once_keep : ∀ (vs f : List Int) (v : Int), v ∈ f ∨ v ∈ vs → v ∈ onceG vs f
  | [], f, v, h => h.elim id (fun z => nomatch z)
  | x :: vs, f, v, h => by
    refine once_keep vs _ v ?_
    rcases h with h | h
    · left
      split
      · exact h
      · exact List.mem_append_left _ h
    · rcases List.mem_cons.mp h with e | h
      · left
        subst e
        split
        · rename_i c
          exact List.contains_iff_mem.mp c
        · exact List.mem_append_right _ List.mem_cons_self
      · exact .inr h
theorem lcommon_tail {cs : List Int} {l : Int} (h : lcommonM cs = some l) : ∀ x ∈ cs.drop 1, x = l := by
  unfold lcommonM onceM at h
  intro x hx
  have hm : x ∈ onceG (cs.drop 1) [] := once_keep _ _ _ (.inr hx)
  have hs : x ∈ sortI (onceG (cs.drop 1) []) := (sortK_perm _).mem_iff.mpr hm
  generalize sortI (onceG (cs.drop 1) []) = ds at h hs
  match ds, h, hs with
  | [d], h, hs =>
    cases h
    exact List.mem_singleton.mp hs
theorem filter_quick {p q : List Int → Bool} (h : ∀ t, p t = true → q t = true) (ts : List (List Int)) : ts.filter p = (ts.filter q).filter p := by
  rw [List.filter_filter]
  refine List.filter_congr fun t _ => ?_
  cases hp : p t with
  | false => rfl
  | true => rw [h t hp]; rfl
theorem every_quick {m k l : Int} (hm : 1 ≤ m) : everyM m k l = ((setsM m k).filter (quick m l)).filter fun t => decide (lcommonM (countsM m t) = some l) :=
  filter_quick (fun t h => quick_of hm (lcommon_tail (of_decide_eq_true h))) _
def rawQ (m k l : Int) (os : List (List Int)) : List (List Int) := ((unionsM os k).filter (quick m l)).filter fun t => decide (commonM (countsM m t) = some l)
theorem raw_quick {m k l : Int} (hm : 1 ≤ m) (os : List (List Int)) : rawM m k l os = rawQ m k l os :=
  filter_quick (fun t h => quick_of hm (common_tail (of_decide_eq_true h))) _

/-! ### the reckoning -/
def fixQ (m k l f : Int) : Option (List (List Int)) :=
  if (decide (1 ≤ m) && decide (m ≤ 200) && (decide (1 ≤ k) && decide (k ≤ m)) && (decide (0 ≤ l) && decide (l ≤ m)) && (decide (0 ≤ f) && decide (f ≤ m - 1)) && decide (gcdG 64 f m = some 1)) = true then
    match orbitsM m f with
    | none => none
    | some os => if (decide (os.length ≤ 20) && decide ((rawQ m k l os).length < 64) && (rawQ m k l os).all (okT k)) = true then some (sortT (rawQ m k l os)) else none
  else none
theorem fixQ_ok {m k l f : Int} {res : List (List Int)} (h : fixQ m k l f = some res) : FixOk m k l f res := by
  unfold fixQ at h
  split at h
  · rename_i c
    simp only [Bool.and_eq_true, decide_eq_true_eq] at c
    obtain ⟨⟨⟨⟨⟨c1, c2⟩, c3⟩, c4⟩, c5⟩, c6⟩ := c
    split at h
    · cases h
    · rename_i os ho
      split at h
      · rename_i d
        simp only [Bool.and_eq_true, decide_eq_true_eq] at d
        cases h
        exact ⟨⟨c1, c2⟩, c3, c4, c5, c6, os, ho, d.1.1, by rw [raw_quick c1]; exact d.1.2, by rw [raw_quick c1]; exact d.2, by rw [raw_quick c1]⟩
      · cases h
  · cases h
def shortL (ts : List (List Int)) : Bool := decide (ts.length ≤ 1000) && ts.all fun t => decide (t.length ≤ 1000)
theorem shortL_iff {ts : List (List Int)} (h : shortL ts = true) : ts.length ≤ 1000 ∧ ∀ t ∈ ts, t.length ≤ 1000 := by
  unfold shortL at h
  rw [Bool.and_eq_true, decide_eq_true_eq, List.all_eq_true] at h
  exact ⟨h.1, fun t ht => of_decide_eq_true (h.2 t ht)⟩
def dueQ (m k l : Int) (E : List (List Int)) (f : Int) : Bool := match fixQ m k l f with
  | none => false
  | some res => decide ((dueM m f E).length < 64) && (dueM m f E).all (okT k) && decide (sortT (dueM m f E) = res) && shortL res
def mulQ (m k l : Int) (E : List (List Int)) (p : Int) : Bool := (!(decide (l < p) && !decide (m % p = 0))) || match fixQ m k l p with
  | none => false
  | some known => E.all fun t => (rng 0 m).any fun s => known.contains (movedM m t 1 s)
def checkA (m k l : Int) (E : List (List Int)) : Bool := (decide (2 ≤ m) && decide (m ≤ 20)) && (decide (1 ≤ k) && decide (k ≤ 20)) && (decide (0 ≤ l) && decide (l ≤ 20)) && shortL E && decide (1 ≤ (factorsM m).length) && (factorsM m).all (dueQ m k l E) && (primesM (k - l)).all (mulQ m k l E)
def everyQ (m k l : Int) : List (List Int) := ((setsM m k).filter (quick m l)).filter fun t => decide (lcommonM (countsM m t) = some l)
theorem checkA_ok {m k l : Int} (E : List (List Int)) (he : everyQ m k l = E) (h : checkA m k l E = true) : OkRowA [m, k, l] := by
  unfold checkA at h
  simp only [Bool.and_eq_true, decide_eq_true_eq, List.all_eq_true] at h
  obtain ⟨⟨⟨⟨⟨⟨h1, h2⟩, h3⟩, h4⟩, h5⟩, h6⟩, h7⟩ := h
  have ev : everyM m k l = E := (every_quick (by omega)).trans he
  refine ⟨m, k, l, rfl, h1, h2, h3, by rw [ev]; exact shortL_iff h4, h5, fun f hf => ?_, fun p hp hlp hmp => ?_⟩
  · have q := h6 f hf
    unfold dueQ at q
    split at q
    · cases q
    · rename_i res hr
      simp only [Bool.and_eq_true, decide_eq_true_eq] at q
      obtain ⟨⟨⟨q1, q2⟩, q3⟩, q4⟩ := q
      rw [ev]
      exact ⟨res, fixQ_ok hr, q1, q2, q3, shortL_iff q4⟩
  · have q := h7 p hp
    unfold mulQ at q
    rw [decide_eq_true hlp, decide_eq_false hmp] at q
    have q' : (match fixQ m k l p with
      | none => false
      | some known => E.all fun t => (rng 0 m).any fun s => known.contains (movedM m t 1 s)) = true := q
    split at q'
    · cases q'
    · rename_i known hr
      rw [ev]
      refine ⟨known, fixQ_ok hr, fun t ht e => ?_⟩
      obtain ⟨s, hs, hk⟩ := List.any_eq_true.mp (List.all_eq_true.mp q' t ht)
      have hm : s ∈ (rng 0 m).filter fun s => known.contains (movedM m t 1 s) := List.mem_filter.mpr ⟨hs, hk⟩
      rw [e] at hm
      cases hm
def foundQ (m k l f : Int) (found : List (List Int)) : Bool := decide (found.length < 64) && found.all (okT k) && (found.all fun t => decide ((t.length : Int) = k) && decide (lcommonM (countsM m t) = some l)) && decide (sortT found = found) && !found.isEmpty && found.all fun t => decide (movedM m t f 0 = t)
def checkB (m k l f : Int) : Bool := (decide (2 ≤ m) && decide (m ≤ 200)) && (decide (1 ≤ k) && decide (k ≤ 200)) && (decide (0 ≤ f) && decide (f ≤ 1000)) && match fixQ m k l f with
  | none => false
  | some found => foundQ m k l f found
theorem checkB_ok {m k l f : Int} (n : Int) (h : checkB m k l f = true) : OkRowB [m, k, l, f, n] := by
  unfold checkB at h
  simp only [Bool.and_eq_true, decide_eq_true_eq] at h
  obtain ⟨⟨⟨h1, h2⟩, h3⟩, h4⟩ := h
  split at h4
  · cases h4
  · rename_i found hr
    unfold foundQ at h4
    simp only [Bool.and_eq_true, decide_eq_true_eq, List.all_eq_true, Bool.not_eq_true'] at h4
    obtain ⟨⟨⟨⟨⟨q1, q2⟩, q3⟩, q4⟩, q5⟩, q6⟩ := h4
    refine ⟨m, k, l, f, n, rfl, h1, h2, h3, found, fixQ_ok hr, q1, List.all_eq_true.mpr q2, ?_, q4, ?_, ?_⟩
    · rw [List.filter_eq_nil_iff]
      intro t ht e
      obtain ⟨a, b⟩ := q3 t ht
      rw [decide_eq_true a, decide_eq_true b] at e
      cases e
    · intro e
      rw [e] at q5
      cases q5
    · rw [List.filter_eq_nil_iff]
      intro t ht e
      rw [decide_eq_true (q6 t ht)] at e
      cases e
end Fs

/-! The reckoning (printed by genre.py): each row of the two tables, by the kernel. -/
namespace Fs
def e_7_3 : List (List Int) := [[0, 1, 3], [0, 2, 3], [1, 2, 4], [1, 3, 4], [0, 1, 5], [2, 3, 5], [0, 4, 5], [2, 4, 5], [0, 2, 6], [1, 2, 6], [0, 4, 6], [3, 4, 6], [1, 5, 6], [3, 5, 6]]
theorem ev_7_3 : everyQ 7 3 1 = e_7_3 := by decide +kernel
theorem ca_7_3 : checkA 7 3 1 e_7_3 = true := by decide +kernel
def e_7_4 : List (List Int) := [[0, 1, 2, 4], [0, 2, 3, 4], [0, 1, 2, 5], [1, 2, 3, 5], [0, 3, 4, 5], [1, 3, 4, 5], [0, 1, 3, 6], [1, 2, 3, 6], [0, 1, 4, 6], [2, 3, 4, 6], [0, 2, 5, 6], [0, 3, 5, 6], [1, 4, 5, 6], [2, 4, 5, 6]]
theorem ev_7_4 : everyQ 7 4 2 = e_7_4 := by decide +kernel
theorem ca_7_4 : checkA 7 4 2 e_7_4 = true := by decide +kernel
def e_11_5 : List (List Int) := [[0, 1, 2, 4, 7], [0, 3, 5, 6, 7], [0, 2, 3, 4, 8], [1, 2, 3, 5, 8], [0, 4, 5, 6, 8], [1, 4, 6, 7, 8], [1, 3, 4, 5, 9], [0, 1, 2, 6, 9], [2, 3, 4, 6, 9], [1, 5, 6, 7, 9], [0, 3, 7, 8, 9], [2, 5, 7, 8, 9], [0, 1, 3, 6, 10], [2, 4, 5, 6, 10], [1, 2, 3, 7, 10], [3, 4, 5, 7, 10], [0, 1, 5, 8, 10], [2, 6, 7, 8, 10], [0, 2, 5, 9, 10], [0, 4, 7, 9, 10], [1, 4, 8, 9, 10], [3, 6, 8, 9, 10]]
theorem ev_11_5 : everyQ 11 5 2 = e_11_5 := by decide +kernel
theorem ca_11_5 : checkA 11 5 2 e_11_5 = true := by decide +kernel
def e_13_4 : List (List Int) := [[0, 1, 4, 6], [0, 2, 5, 6], [0, 2, 3, 7], [1, 2, 5, 7], [0, 4, 5, 7], [1, 3, 6, 7], [1, 3, 4, 8], [2, 3, 6, 8], [1, 5, 6, 8], [2, 4, 7, 8], [0, 1, 3, 9], [2, 4, 5, 9], [3, 4, 7, 9], [2, 6, 7, 9], [3, 5, 8, 9], [0, 6, 8, 9], [1, 2, 4, 10], [3, 5, 6, 10], [0, 1, 8, 10], [4, 5, 8, 10], [3, 7, 8, 10], [0, 2, 9, 10], [4, 6, 9, 10], [1, 7, 9, 10], [0, 3, 4, 11], [0, 1, 5, 11], [2, 3, 5, 11], [4, 6, 7, 11], [0, 7, 8, 11], [1, 2, 9, 11], [5, 6, 9, 11], [4, 8, 9, 11], [1, 3, 10, 11], [0, 6, 10, 11], [5, 7, 10, 11], [2, 8, 10, 11], [0, 3, 5, 12], [1, 4, 5, 12], [1, 2, 6, 12], [3, 4, 6, 12], [0, 2, 8, 12], [5, 7, 8, 12], [0, 7, 9, 12], [1, 8, 9, 12], [2, 3, 10, 12], [0, 4, 10, 12], [6, 7, 10, 12], [5, 9, 10, 12], [2, 4, 11, 12], [1, 7, 11, 12], [6, 8, 11, 12], [3, 9, 11, 12]]
theorem ev_13_4 : everyQ 13 4 1 = e_13_4 := by decide +kernel
theorem ca_13_4 : checkA 13 4 1 e_13_4 = true := by decide +kernel
def e_11_6 : List (List Int) := [[0, 1, 2, 4, 5, 7], [0, 2, 3, 5, 6, 7], [1, 2, 3, 5, 6, 8], [1, 3, 4, 6, 7, 8], [0, 1, 3, 4, 5, 9], [2, 3, 4, 6, 7, 9], [0, 1, 2, 6, 8, 9], [0, 4, 5, 6, 8, 9], [0, 1, 3, 7, 8, 9], [2, 4, 5, 7, 8, 9], [0, 1, 3, 4, 6, 10], [1, 2, 4, 5, 6, 10], [0, 2, 3, 4, 8, 10], [0, 1, 5, 7, 8, 10], [3, 4, 5, 7, 8, 10], [0, 2, 6, 7, 8, 10], [0, 2, 3, 5, 9, 10], [1, 2, 3, 7, 9, 10], [0, 4, 6, 7, 9, 10], [1, 5, 6, 7, 9, 10], [1, 2, 4, 8, 9, 10], [3, 5, 6, 8, 9, 10]]
theorem ev_11_6 : everyQ 11 6 3 = e_11_6 := by decide +kernel
theorem ca_11_6 : checkA 11 6 3 e_11_6 = true := by decide +kernel
def e_15_7 : List (List Int) := [[0, 1, 2, 4, 5, 8, 10], [0, 2, 5, 6, 8, 9, 10], [1, 2, 3, 5, 6, 9, 11], [1, 3, 6, 7, 9, 10, 11], [0, 1, 3, 4, 5, 10, 12], [2, 3, 4, 6, 7, 10, 12], [0, 2, 7, 8, 9, 11, 12], [2, 4, 7, 8, 10, 11, 12], [0, 3, 4, 6, 7, 8, 13], [0, 5, 6, 7, 9, 10, 13], [1, 2, 4, 5, 6, 11, 13], [3, 4, 5, 7, 8, 11, 13], [0, 1, 2, 7, 9, 12, 13], [1, 3, 8, 9, 10, 12, 13], [0, 1, 4, 6, 11, 12, 13], [3, 5, 8, 9, 11, 12, 13], [0, 1, 3, 4, 7, 9, 14], [1, 4, 5, 7, 8, 9, 14], [0, 2, 3, 4, 9, 11, 14], [1, 6, 7, 8, 10, 11, 14], [2, 3, 5, 6, 7, 12, 14], [4, 5, 6, 8, 9, 12, 14], [0, 1, 6, 8, 11, 12, 14], [0, 3, 5, 10, 11, 12, 14], [0, 2, 3, 6, 8, 13, 14], [1, 2, 3, 8, 10, 13, 14], [0, 5, 7, 10, 11, 13, 14], [2, 4, 9, 10, 11, 13, 14], [1, 2, 5, 7, 12, 13, 14], [4, 6, 9, 10, 12, 13, 14]]
theorem ev_15_7 : everyQ 15 7 3 = e_15_7 := by decide +kernel
theorem ca_15_7 : checkA 15 7 3 e_15_7 = true := by decide +kernel
def e_3_2 : List (List Int) := [[0, 1], [0, 2], [1, 2]]
theorem ev_3_2 : everyQ 3 2 1 = e_3_2 := by decide +kernel
theorem ca_3_2 : checkA 3 2 1 e_3_2 = true := by decide +kernel
def e_9_3 : List (List Int) := []
theorem ev_9_3 : everyQ 9 3 1 = e_9_3 := by decide +kernel
theorem ca_9_3 : checkA 9 3 1 e_9_3 = true := by decide +kernel
def e_13_5 : List (List Int) := []
theorem ev_13_5 : everyQ 13 5 2 = e_13_5 := by decide +kernel
theorem ca_13_5 : checkA 13 5 2 e_13_5 = true := by decide +kernel
def e_10_4 : List (List Int) := []
theorem ev_10_4 : everyQ 10 4 1 = e_10_4 := by decide +kernel
theorem ca_10_4 : checkA 10 4 1 e_10_4 = true := by decide +kernel
theorem cb_21_5 : checkB 21 5 1 2 = true := by decide +kernel
theorem cb_31_6 : checkB 31 6 1 5 = true := by decide +kernel
theorem cb_13_4 : checkB 13 4 1 3 = true := by decide +kernel
theorem cb_37_9 : checkB 37 9 2 7 = true := by decide +kernel
theorem cb_23_11 : checkB 23 11 5 2 = true := by decide +kernel
theorem cb_40_13 : checkB 40 13 4 3 = true := by decide +kernel
theorem all_A : ∀ t ∈ tabA, OkRowA t := by
  intro t ht
  simp only [tabA, List.mem_cons, List.not_mem_nil, or_false] at ht
  rcases ht with rfl | rfl | rfl | rfl | rfl | rfl | rfl | rfl | rfl | rfl
  · exact checkA_ok e_7_3 ev_7_3 ca_7_3
  · exact checkA_ok e_7_4 ev_7_4 ca_7_4
  · exact checkA_ok e_11_5 ev_11_5 ca_11_5
  · exact checkA_ok e_13_4 ev_13_4 ca_13_4
  · exact checkA_ok e_11_6 ev_11_6 ca_11_6
  · exact checkA_ok e_15_7 ev_15_7 ca_15_7
  · exact checkA_ok e_3_2 ev_3_2 ca_3_2
  · exact checkA_ok e_9_3 ev_9_3 ca_9_3
  · exact checkA_ok e_13_5 ev_13_5 ca_13_5
  · exact checkA_ok e_10_4 ev_10_4 ca_10_4
theorem all_B : ∀ t ∈ tabB, OkRowB t := by
  intro t ht
  simp only [tabB, List.mem_cons, List.not_mem_nil, or_false] at ht
  rcases ht with rfl | rfl | rfl | rfl | rfl | rfl
  · exact checkB_ok 2 cb_21_5
  · exact checkB_ok 10 cb_31_6
  · exact checkB_ok 4 cb_13_4
  · exact checkB_ok 4 cb_37_9
  · exact checkB_ok 2 cb_23_11
  · exact checkB_ok 8 cb_40_13
end Fs

/-! The end (printed by genwe.py). -/
namespace Fs
open PySem PySem.Spec PyProof.Rows L2
/-- a def as the written part holds it -/
structure DefAt (K : PySem.W.Frag) (x : Str) (st : Stmt) (f : Addr) (oc : Value) (od : Option Addr) (sl : Array (Option Value)) (kV dc pm : Value) (an : Option Addr) (cd ct : Value) : Prop where
  a : PySem.W.nsIn K mainGlobals x = some (some (.ref f))
  l : K.lookup f = some ⟨oc, od, .func (PySem.W.fnOf x x (defArgs st) (defBody st) (defScope st) .none kV dc pm an cd ct), sl⟩
  c : PySem.W.codeIn K cd x = true
  k : PySem.W.keepIn K (.ref f) = true
section
variable {K : PySem.W.Frag} {h : Heap} {mg : Str → Option Value}
theorem there_of {x : Str} {st : Stmt} {ps : List Str} {f : Addr} {oc : Value} {od : Option Addr} {sl : Array (Option Value)} {kV dc pm : Value} {an : Option Addr} {cd ct : Value} (X : K.In h) (G : h.Ns mainGlobals mg) (D : DefAt K x st f oc od sl kV dc pm an cd ct)
    (hb : ∀ (kV doc pm : Value) (an : Option Addr) (cdv ct : Value) (us : List Value), us.length = ps.length → bindArgs (PySem.W.fnOf x x (defArgs st) (defBody st) (defScope st) .none kV doc pm an cdv ct) ⟨us, []⟩ = pure (ps.zip us)) : There K mg x st ps :=
  ⟨f, _, fun_mk D.l D.c D.k, PySem.W.mg_of X G D.a, (fun_mk D.l D.c D.k).binds hb⟩
end
/-- all that the law leans on, from what the top has left -/
theorem all_fn {P : Program} {w : World} {K : PySem.W.Frag} {mg : Str → Option Value} {base : Heap}
    (t6 : There K mg "is_int" sIsInt ["value"])
    (t7 : There K mg "is_in" sIsIn ["value", "least", "most"])
    (t8 : There K mg "common_divisor" sGcd ["one", "other"])
    (t12 : There K mg "need_modulus" sNeedM ["value"])
    (t13 : There K mg "counts_of" sCounts ["modulus", "members"])
    (t14 : There K mg "common" sCommon ["counts"])
    (t15 : There K mg "need_sizes" sNeedS ["modulus", "size", "often"])
    (t16 : There K mg "orbits_of" sOrbits ["modulus", "factor"])
    (t17 : There K mg "unions_of" sUnions ["orbits", "size"])
    (t18 : There K mg "fixed_sets" sFixed ["modulus", "size", "often", "factor"])
    (t20 : There K mg "_law_taken" sTaken ["_law_row", "_law_many"])
    (t21 : There K mg "_law_pick" sPick ["_law_row", "_law_things"])
    (t22 : There K mg "_law_alike" sAlike ["_law_found", "_law_due"])
    (t23 : There K mg "_law_once" sOnce ["_law_values"])
    (t24 : There K mg "_law_prime" sPrime ["_law_number"])
    (t25 : There K mg "_law_counts" sLCounts ["_law_modulus", "_law_members"])
    (t26 : There K mg "_law_common" sLCommon ["_law_counts_here"])
    (t27 : There K mg "_law_moved" sMoved ["_law_modulus", "_law_members", "_law_factor", "_law_step"])
    (t28 : There K mg "_law_sets" sSets ["_law_many", "_law_size"])
    (tL : There K mg "law" sLaw ["_law_script"])
    (z_isinstance : mg "isinstance" = none)
    (z_int : mg "int" = none)
    (z_bool : mg "bool" = none)
    (z_len : mg "len" = none)
    (z_range : mg "range" = none)
    (z_list : mg "list" = none)
    (z_tuple : mg "tuple" = none)
    (z_sorted : mg "sorted" = none)
    (z_all : mg "all" = none)
    (z_str : mg "str" = none)
    (zM : ∃ t, mg "MOST_MODULUS" = some (.int 200 t)) (zO : ∃ t, mg "MOST_ORBITS" = some (.int 20 t)) : ∀ (f : Addr) (fd : FuncData), Fun K "law" "law" sLaw f fd → FnOk P w K mg base CX0 6 f fd ["_law_script"] (spLaw K) := by
  have g1 : Fn P w K mg base 1 "is_int" ["value"] spIsInt := fn_isInt t6 z_isinstance z_int z_bool
  have g2 : Fn P w K mg base 2 "is_in" ["value", "least", "most"] spIsIn := fn_isIn t7 g1
  have g3 : Fn P w K mg base 3 "need_modulus" ["value"] spNeedM := fn_needM t12 g2 zM
  have g4 : Fn P w K mg base 4 "need_sizes" ["modulus", "size", "often"] spNeedS := fn_needS t15 (g2.mono (by decide)) g3
  have g5 : Fn P w K mg base 5 "fixed_sets" ["modulus", "size", "often", "factor"] spFixed := fn_fixed t18 z_len z_sorted zO g4 (g2.mono (by decide)) (fn_gcd t8) (fn_orbits t16 z_list z_range z_tuple z_sorted) (fn_unions t17 z_len z_tuple z_sorted) (fn_counts t13) (fn_common t14 z_all)
  have p1 : Fn P w K mg base 1 "_law_taken" ["_law_row", "_law_many"] (spTaken K) := fn_taken t20 z_len z_int
  have p2 : Fn P w K mg base 2 "_law_pick" ["_law_row", "_law_things"] (spPick K) := fn_pick t21 z_len p1
  have a1 : Fn P w K mg base 1 "_law_alike" ["_law_found", "_law_due"] (spAlike IntI) := fn_alikeI t22 z_isinstance z_tuple z_list z_str z_int z_bool
  have a2 : Fn P w K mg base 2 "_law_alike" ["_law_found", "_law_due"] (spAlike TupB) := fn_alikeT t22 z_isinstance z_tuple z_list z_len z_range a1
  have a3 : Fn P w K mg base 3 "_law_alike" ["_law_found", "_law_due"] (spAlike LotB) := fn_alikeL t22 z_isinstance z_tuple z_list z_len z_range a2
  have o1 : Fn P w K mg base 1 "_law_once" ["_law_values"] spOnce := fn_once t23 z_sorted
  exact fn_law tL z_range z_sorted z_len all_A all_B (p2.mono (by decide)) (fn_sets t28 z_len z_range) (fn_lcounts t25) ((fn_lcommon t26 z_len o1).mono (by decide : 2 ≤ 5)) (fn_moved t27 z_tuple z_sorted) g5 (a3.mono (by decide)) (fn_prime t24 z_range)
theorem all_mk {l : PySem.W.OpenLaw} {w : World} {K : PySem.W.Frag} {h : Heap} {mg : Str → Option Value} {fa : Addr} (X : K.In h) (G : h.Ns mainGlobals mg) (hfa : mg "law" = some (.ref fa))
    {f6 : Addr} {oc6 : Value} {od6 : Option Addr} {sl6 : Array (Option Value)} {kV6 dc6 pm6 : Value} {an6 : Option Addr} {cd6 ct6 : Value} {f7 : Addr} {oc7 : Value} {od7 : Option Addr} {sl7 : Array (Option Value)} {kV7 dc7 pm7 : Value} {an7 : Option Addr} {cd7 ct7 : Value} {f8 : Addr} {oc8 : Value} {od8 : Option Addr} {sl8 : Array (Option Value)} {kV8 dc8 pm8 : Value} {an8 : Option Addr} {cd8 ct8 : Value} {f12 : Addr} {oc12 : Value} {od12 : Option Addr} {sl12 : Array (Option Value)} {kV12 dc12 pm12 : Value} {an12 : Option Addr} {cd12 ct12 : Value} {f13 : Addr} {oc13 : Value} {od13 : Option Addr} {sl13 : Array (Option Value)} {kV13 dc13 pm13 : Value} {an13 : Option Addr} {cd13 ct13 : Value} {f14 : Addr} {oc14 : Value} {od14 : Option Addr} {sl14 : Array (Option Value)} {kV14 dc14 pm14 : Value} {an14 : Option Addr} {cd14 ct14 : Value} {f15 : Addr} {oc15 : Value} {od15 : Option Addr} {sl15 : Array (Option Value)} {kV15 dc15 pm15 : Value} {an15 : Option Addr} {cd15 ct15 : Value} {f16 : Addr} {oc16 : Value} {od16 : Option Addr} {sl16 : Array (Option Value)} {kV16 dc16 pm16 : Value} {an16 : Option Addr} {cd16 ct16 : Value} {f17 : Addr} {oc17 : Value} {od17 : Option Addr} {sl17 : Array (Option Value)} {kV17 dc17 pm17 : Value} {an17 : Option Addr} {cd17 ct17 : Value} {f18 : Addr} {oc18 : Value} {od18 : Option Addr} {sl18 : Array (Option Value)} {kV18 dc18 pm18 : Value} {an18 : Option Addr} {cd18 ct18 : Value} {f20 : Addr} {oc20 : Value} {od20 : Option Addr} {sl20 : Array (Option Value)} {kV20 dc20 pm20 : Value} {an20 : Option Addr} {cd20 ct20 : Value} {f21 : Addr} {oc21 : Value} {od21 : Option Addr} {sl21 : Array (Option Value)} {kV21 dc21 pm21 : Value} {an21 : Option Addr} {cd21 ct21 : Value} {f22 : Addr} {oc22 : Value} {od22 : Option Addr} {sl22 : Array (Option Value)} {kV22 dc22 pm22 : Value} {an22 : Option Addr} {cd22 ct22 : Value} {f23 : Addr} {oc23 : Value} {od23 : Option Addr} {sl23 : Array (Option Value)} {kV23 dc23 pm23 : Value} {an23 : Option Addr} {cd23 ct23 : Value} {f24 : Addr} {oc24 : Value} {od24 : Option Addr} {sl24 : Array (Option Value)} {kV24 dc24 pm24 : Value} {an24 : Option Addr} {cd24 ct24 : Value} {f25 : Addr} {oc25 : Value} {od25 : Option Addr} {sl25 : Array (Option Value)} {kV25 dc25 pm25 : Value} {an25 : Option Addr} {cd25 ct25 : Value} {f26 : Addr} {oc26 : Value} {od26 : Option Addr} {sl26 : Array (Option Value)} {kV26 dc26 pm26 : Value} {an26 : Option Addr} {cd26 ct26 : Value} {f27 : Addr} {oc27 : Value} {od27 : Option Addr} {sl27 : Array (Option Value)} {kV27 dc27 pm27 : Value} {an27 : Option Addr} {cd27 ct27 : Value} {f28 : Addr} {oc28 : Value} {od28 : Option Addr} {sl28 : Array (Option Value)} {kV28 dc28 pm28 : Value} {an28 : Option Addr} {cd28 ct28 : Value} {f29 : Addr} {oc29 : Value} {od29 : Option Addr} {sl29 : Array (Option Value)} {kV29 dc29 pm29 : Value} {an29 : Option Addr} {cd29 ct29 : Value}
    (d6 : DefAt K "is_int" sIsInt f6 oc6 od6 sl6 kV6 dc6 pm6 an6 cd6 ct6)
    (d7 : DefAt K "is_in" sIsIn f7 oc7 od7 sl7 kV7 dc7 pm7 an7 cd7 ct7)
    (d8 : DefAt K "common_divisor" sGcd f8 oc8 od8 sl8 kV8 dc8 pm8 an8 cd8 ct8)
    (d12 : DefAt K "need_modulus" sNeedM f12 oc12 od12 sl12 kV12 dc12 pm12 an12 cd12 ct12)
    (d13 : DefAt K "counts_of" sCounts f13 oc13 od13 sl13 kV13 dc13 pm13 an13 cd13 ct13)
    (d14 : DefAt K "common" sCommon f14 oc14 od14 sl14 kV14 dc14 pm14 an14 cd14 ct14)
    (d15 : DefAt K "need_sizes" sNeedS f15 oc15 od15 sl15 kV15 dc15 pm15 an15 cd15 ct15)
    (d16 : DefAt K "orbits_of" sOrbits f16 oc16 od16 sl16 kV16 dc16 pm16 an16 cd16 ct16)
    (d17 : DefAt K "unions_of" sUnions f17 oc17 od17 sl17 kV17 dc17 pm17 an17 cd17 ct17)
    (d18 : DefAt K "fixed_sets" sFixed f18 oc18 od18 sl18 kV18 dc18 pm18 an18 cd18 ct18)
    (d20 : DefAt K "_law_taken" sTaken f20 oc20 od20 sl20 kV20 dc20 pm20 an20 cd20 ct20)
    (d21 : DefAt K "_law_pick" sPick f21 oc21 od21 sl21 kV21 dc21 pm21 an21 cd21 ct21)
    (d22 : DefAt K "_law_alike" sAlike f22 oc22 od22 sl22 kV22 dc22 pm22 an22 cd22 ct22)
    (d23 : DefAt K "_law_once" sOnce f23 oc23 od23 sl23 kV23 dc23 pm23 an23 cd23 ct23)
    (d24 : DefAt K "_law_prime" sPrime f24 oc24 od24 sl24 kV24 dc24 pm24 an24 cd24 ct24)
    (d25 : DefAt K "_law_counts" sLCounts f25 oc25 od25 sl25 kV25 dc25 pm25 an25 cd25 ct25)
    (d26 : DefAt K "_law_common" sLCommon f26 oc26 od26 sl26 kV26 dc26 pm26 an26 cd26 ct26)
    (d27 : DefAt K "_law_moved" sMoved f27 oc27 od27 sl27 kV27 dc27 pm27 an27 cd27 ct27)
    (d28 : DefAt K "_law_sets" sSets f28 oc28 od28 sl28 kV28 dc28 pm28 an28 cd28 ct28)
    (d29 : DefAt K "law" sLaw f29 oc29 od29 sl29 kV29 dc29 pm29 an29 cd29 ct29)
    (z_isinstance : PySem.W.nsIn K mainGlobals "isinstance" = some none)
    (z_int : PySem.W.nsIn K mainGlobals "int" = some none)
    (z_bool : PySem.W.nsIn K mainGlobals "bool" = some none)
    (z_len : PySem.W.nsIn K mainGlobals "len" = some none)
    (z_range : PySem.W.nsIn K mainGlobals "range" = some none)
    (z_list : PySem.W.nsIn K mainGlobals "list" = some none)
    (z_tuple : PySem.W.nsIn K mainGlobals "tuple" = some none)
    (z_sorted : PySem.W.nsIn K mainGlobals "sorted" = some none)
    (z_all : PySem.W.nsIn K mainGlobals "all" = some none)
    (z_str : PySem.W.nsIn K mainGlobals "str" = some none)
    {tM tO : Tok} (zM : PySem.W.nsIn K mainGlobals "MOST_MODULUS" = some (some (.int 200 tM))) (zO : PySem.W.nsIn K mainGlobals "MOST_ORBITS" = some (some (.int 20 tO))) :
    ∃ fd : FuncData, (∀ (s : Shared) (v : Value), BindsTo s fd ⟨[v], []⟩ [("_law_script", v)]) ∧ ∀ base : Heap, K.In base → base.Ns mainGlobals mg → FnOk l.prog w K mg base CX0 6 fa fd ["_law_script"] (spLaw K) := by
  have e := hfa.symm.trans (PySem.W.mg_of X G d29.a)
  cases e
  refine ⟨_, fun s v => .of_eq rfl, fun base _ _ => all_fn
    (there_of X G d6 fun _ _ _ _ _ _ us hl => match us, hl with | [_], _ => rfl)
    (there_of X G d7 fun _ _ _ _ _ _ us hl => match us, hl with | [_, _, _], _ => rfl)
    (there_of X G d8 fun _ _ _ _ _ _ us hl => match us, hl with | [_, _], _ => rfl)
    (there_of X G d12 fun _ _ _ _ _ _ us hl => match us, hl with | [_], _ => rfl)
    (there_of X G d13 fun _ _ _ _ _ _ us hl => match us, hl with | [_, _], _ => rfl)
    (there_of X G d14 fun _ _ _ _ _ _ us hl => match us, hl with | [_], _ => rfl)
    (there_of X G d15 fun _ _ _ _ _ _ us hl => match us, hl with | [_, _, _], _ => rfl)
    (there_of X G d16 fun _ _ _ _ _ _ us hl => match us, hl with | [_, _], _ => rfl)
    (there_of X G d17 fun _ _ _ _ _ _ us hl => match us, hl with | [_, _], _ => rfl)
    (there_of X G d18 fun _ _ _ _ _ _ us hl => match us, hl with | [_, _, _, _], _ => rfl)
    (there_of X G d20 fun _ _ _ _ _ _ us hl => match us, hl with | [_, _], _ => rfl)
    (there_of X G d21 fun _ _ _ _ _ _ us hl => match us, hl with | [_, _], _ => rfl)
    (there_of X G d22 fun _ _ _ _ _ _ us hl => match us, hl with | [_, _], _ => rfl)
    (there_of X G d23 fun _ _ _ _ _ _ us hl => match us, hl with | [_], _ => rfl)
    (there_of X G d24 fun _ _ _ _ _ _ us hl => match us, hl with | [_], _ => rfl)
    (there_of X G d25 fun _ _ _ _ _ _ us hl => match us, hl with | [_, _], _ => rfl)
    (there_of X G d26 fun _ _ _ _ _ _ us hl => match us, hl with | [_], _ => rfl)
    (there_of X G d27 fun _ _ _ _ _ _ us hl => match us, hl with | [_, _, _, _], _ => rfl)
    (there_of X G d28 fun _ _ _ _ _ _ us hl => match us, hl with | [_, _], _ => rfl)
    (there_of X G d29 fun _ _ _ _ _ _ us hl => match us, hl with | [_], _ => rfl)
    (PySem.W.mg_none_of X G z_isinstance)
    (PySem.W.mg_none_of X G z_int)
    (PySem.W.mg_none_of X G z_bool)
    (PySem.W.mg_none_of X G z_len)
    (PySem.W.mg_none_of X G z_range)
    (PySem.W.mg_none_of X G z_list)
    (PySem.W.mg_none_of X G z_tuple)
    (PySem.W.mg_none_of X G z_sorted)
    (PySem.W.mg_none_of X G z_all)
    (PySem.W.mg_none_of X G z_str)
    ⟨_, PySem.W.mg_of X G zM⟩ ⟨_, PySem.W.mg_of X G zO⟩ _ _ (fun_mk d29.l d29.c d29.k)⟩
end Fs
open PySem PySem.W PyProof.Rows
set_option maxHeartbeats 0 in
theorem PySem.Challenge.cw_echowords_k44_whole_fixed_sets_holds : PySem.Challenge.rw_echowords_k44_whole_fixed_sets.Holds := by
  w_on; o_law; k_head; (case hw => w_witness2)
  k_fill
  refine L2.walk_of (l := PySem.Challenge.rw_echowords_k44_whole_fixed_sets) (n := 63) (k := 6) (x := "_law_script") (CX := fun _ => L2.CX0) (sp := fun w => Fs.spLaw _) rfl (by decide) rfl ⟨rfl, by decide, by decide⟩ (fun w h Y => PySem.W.kIn_of Y) ?F (fun _ _ a ns hl _ hS => ⟨a, ns, rfl, hS, hl, fun _ => rfl⟩) (fun _ _ _ _ _ h => h)
  case F =>
    intro w mg fa h KX G hmg
    refine' Fs.all_mk KX G hmg ⟨?a6, ?l6, ?c6, ?k6⟩ ⟨?a7, ?l7, ?c7, ?k7⟩ ⟨?a8, ?l8, ?c8, ?k8⟩ ⟨?a12, ?l12, ?c12, ?k12⟩ ⟨?a13, ?l13, ?c13, ?k13⟩ ⟨?a14, ?l14, ?c14, ?k14⟩ ⟨?a15, ?l15, ?c15, ?k15⟩ ⟨?a16, ?l16, ?c16, ?k16⟩ ⟨?a17, ?l17, ?c17, ?k17⟩ ⟨?a18, ?l18, ?c18, ?k18⟩ ⟨?a20, ?l20, ?c20, ?k20⟩ ⟨?a21, ?l21, ?c21, ?k21⟩ ⟨?a22, ?l22, ?c22, ?k22⟩ ⟨?a23, ?l23, ?c23, ?k23⟩ ⟨?a24, ?l24, ?c24, ?k24⟩ ⟨?a25, ?l25, ?c25, ?k25⟩ ⟨?a26, ?l26, ?c26, ?k26⟩ ⟨?a27, ?l27, ?c27, ?k27⟩ ⟨?a28, ?l28, ?c28, ?k28⟩ ⟨?a29, ?l29, ?c29, ?k29⟩ ?z_isinstance ?z_int ?z_bool ?z_len ?z_range ?z_list ?z_tuple ?z_sorted ?z_all ?z_str ?zM ?zO
    (case a6 => k_is); (case l6 => k_is); (case c6 => k_is); (case k6 => k_is)
    (case a7 => k_is); (case l7 => k_is); (case c7 => k_is); (case k7 => k_is)
    (case a8 => k_is); (case l8 => k_is); (case c8 => k_is); (case k8 => k_is)
    (case a12 => k_is); (case l12 => k_is); (case c12 => k_is); (case k12 => k_is)
    (case a13 => k_is); (case l13 => k_is); (case c13 => k_is); (case k13 => k_is)
    (case a14 => k_is); (case l14 => k_is); (case c14 => k_is); (case k14 => k_is)
    (case a15 => k_is); (case l15 => k_is); (case c15 => k_is); (case k15 => k_is)
    (case a16 => k_is); (case l16 => k_is); (case c16 => k_is); (case k16 => k_is)
    (case a17 => k_is); (case l17 => k_is); (case c17 => k_is); (case k17 => k_is)
    (case a18 => k_is); (case l18 => k_is); (case c18 => k_is); (case k18 => k_is)
    (case a20 => k_is); (case l20 => k_is); (case c20 => k_is); (case k20 => k_is)
    (case a21 => k_is); (case l21 => k_is); (case c21 => k_is); (case k21 => k_is)
    (case a22 => k_is); (case l22 => k_is); (case c22 => k_is); (case k22 => k_is)
    (case a23 => k_is); (case l23 => k_is); (case c23 => k_is); (case k23 => k_is)
    (case a24 => k_is); (case l24 => k_is); (case c24 => k_is); (case k24 => k_is)
    (case a25 => k_is); (case l25 => k_is); (case c25 => k_is); (case k25 => k_is)
    (case a26 => k_is); (case l26 => k_is); (case c26 => k_is); (case k26 => k_is)
    (case a27 => k_is); (case l27 => k_is); (case c27 => k_is); (case k27 => k_is)
    (case a28 => k_is); (case l28 => k_is); (case c28 => k_is); (case k28 => k_is)
    (case a29 => k_is); (case l29 => k_is); (case c29 => k_is); (case k29 => k_is)
    (case z_isinstance => k_is)
    (case z_int => k_is)
    (case z_bool => k_is)
    (case z_len => k_is)
    (case z_range => k_is)
    (case z_list => k_is)
    (case z_tuple => k_is)
    (case z_sorted => k_is)
    (case z_all => k_is)
    (case z_str => k_is)
    (case zM => k_is); (case zO => k_is)

